import PyProof.Rows.All
import Wide.All
import OpenK.AllK
import Wide.FinOn
import PyProof.EqAt
import PyProof.EqKinds
import PyProof.EqLayable
import HandS.ForMost
import HandS.Exc
import HandS.ExcOwn
import HandS.TryOnly
import HandS.WordsExc
import KE.SortData
import KE.DataFind
import KE.DataMinMax
import HandS.TupAny
import HandS.TupMul
import HandS.Style
import HandS.Wide
import HandS.CallSlots
import HandS.CallLocal
import KE.KeyNested
import PyProof.Rows.SeqItemCall
import HandS.IsInst
import HandS.Deep
import HandS.SortInts
import HandS.SortRule
import HandS.Strs
import HandS.SetFor
import KE.GoesEnum
import KE.GoesMore
import HandS.Iter
import HandS.Conv
import HandS.Zip
import HandS.Comp
import HandS.List
import HandS.Defaults
import HandS.Head0
import HandS.Head1
import HandS.Head2
import HandS.HeadEnd
import HandS.HeadHook1
import HandS.HeadHook2
import PySem.Challenge.RW_spreadheld_k81_whole_steady_states_and_r
set_option Elab.async false
set_option linter.all false
set_option maxRecDepth 100000
set_option maxHeartbeats 0
/-! Pi, part 1: values without a heap, operations, and the combinators that a def's body is compiled to. -/
namespace Pi
open PySem

/-- a value; dic holds its entries as pairs; fn is a def of the module by its name; scr is the law's script -/
inductive PV where
  | non | bl (b : Bool) | int (i : Int) | str (x : Str) | tup (xs : List PV) | lst (xs : List PV) | dic (es : List PV) | fn (x : Str) | scr (ns : List Int)
/-- what a slot holds: a value that nobody changes, or an object of the slot's own (o is lst or dic) -/
inductive XV where
  | pv (v : PV) | own (o : PV)
abbrev Env := List (Option XV)
inductive Out (α : Type) where
  | ok (a : α) (ρ : Env) | exc (c : Str) (fs : List (Str × PV)) (ρ : Env) | bad
@[simp] def Out.bd {α β : Type} : Out α → (α → Env → Out β) → Out β
  | .ok a ρ, f => f a ρ
  | .exc c fs ρ, _ => .exc c fs ρ
  | .bad, _ => .bad
inductive FOut where
  | ok (r : XV) (outs : List (Option XV)) | exc (c : Str) (fs : List (Str × PV)) | bad
/-- an operand: a value in hand, or what the slot i holds when it is used -/
inductive RV where
  | v (x : XV) | sl (i : Nat)
abbrev E := Env → Out XV
abbrev OP := Env → Out RV
abbrev T := Env → Out Bool
inductive Flow where
  | nx | brk | cnt | ret (x : XV)
abbrev S := Env → Out Flow

@[simp] def XV.val : XV → PV
  | .pv v => v
  | .own o => o
@[simp] def XV.isOwn : XV → Bool
  | .pv _ => false
  | .own _ => true
/-- the content of an operand -/
@[simp] def dr (ρ : Env) : RV → Option PV
  | .v x => some x.val
  | .sl i => match ρ[i]? with
    | some (some x) => some x.val
    | _ => none

/-! ### equality -/
mutual
def eqv : PV → PV → Bool
  | .non, .non => true
  | .bl a, .bl b => a == b
  | .bl a, .int j => (if a then 1 else 0) == j
  | .int i, .bl b => i == (if b then 1 else 0)
  | .int i, .int j => i == j
  | .str x, .str y => x == y
  | .lst xs, .lst ys => eqvs xs ys
  | .tup xs, .tup ys => eqvs xs ys
  | _, _ => false
def eqvs : List PV → List PV → Bool
  | [], [] => true
  | x :: xs, y :: ys => eqv x y && eqvs xs ys
  | _, _ => false
end
/-- data to a depth -/
def pl : Nat → PV → Bool
  | _, .non => true
  | _, .bl _ => true
  | _, .int _ => true
  | _, .str x => x.cps.all (· < 0x110000)
  | n + 1, .tup xs => xs.all (pl n)
  | n + 1, .lst xs => xs.all (pl n)
  | _, _ => false
mutual
def toD : PV → PyData
  | .non => .none
  | .bl b => .bool b
  | .int i => .int i
  | .str x => .str x
  | .tup xs => .tuple (toDs xs)
  | .lst xs => .list (toDs xs)
  | _ => .none
def toDs : List PV → List PyData
  | [] => []
  | x :: xs => toD x :: toDs xs
end
/-- no list in it -/
def nol : Nat → PV → Bool
  | _, .non => true
  | _, .bl _ => true
  | _, .int _ => true
  | _, .str _ => true
  | _, .fn _ => true
  | n + 1, .tup xs => xs.all (nol n)
  | _, _ => false

/-! ### operations -/
abbrev szL : Nat := 16777216
def mulOk (i j : Int) : Bool := (decide (-18446744073709551616 < i) && decide (i < 18446744073709551616)) || (decide (-18446744073709551616 < j) && decide (j < 18446744073709551616)) || decide (i.natAbs.log2 + j.natAbs.log2 < 1000000)
def divOk (j : Int) : Bool := (decide (j ≠ 0) && decide (j.natAbs < 1073741824)) || (decide (0 < j) && decide (j.natAbs.log2 < 9000))
@[simp] def addV : PV → PV → Option XV
  | .int i, .int j => some (.pv (.int (i + j)))
  | .str x, .str y => if x.length + y.length ≤ szL then some (.pv (.str (x ++ y))) else none
  | .lst xs, .lst ys => if xs.length + ys.length ≤ szL then some (.own (.lst (xs ++ ys))) else none
  | .tup xs, .tup ys => if xs.length + ys.length ≤ szL then some (.pv (.tup (xs ++ ys))) else none
  | _, _ => none
@[simp] def subV : PV → PV → Option XV
  | .int i, .int j => some (.pv (.int (i - j)))
  | _, _ => none
def rep {α : Type} (k : Int) (xs : List α) : List α := (List.replicate k.toNat xs).flatten
@[simp] def mulV : PV → PV → Option XV
  | .int i, .int j => if mulOk i j then some (.pv (.int (i * j))) else none
  | .lst xs, .int k => if -1000000 ≤ k ∧ k ≤ 1000000 ∧ xs.length * k.toNat ≤ 1000000 then some (.own (.lst (rep k xs))) else none
  | .tup xs, .int k => if -1000000 ≤ k ∧ k ≤ 1000 ∧ xs.length ≤ 1000 then some (.pv (.tup (rep k xs))) else none
  | _, _ => none
@[simp] def fdivV : PV → PV → Option XV
  | .int i, .int j => if divOk j then some (.pv (.int (i.fdiv j))) else none
  | _, _ => none
@[simp] def modV : PV → PV → Option XV
  | .int i, .int j => if j ≠ 0 then some (.pv (.int (i.fmod j))) else none
  | _, _ => none
@[simp] def powV : PV → PV → Option XV
  | .int i, .int j => if 0 ≤ j ∧ j ≤ 1000000 ∧ i.natAbs < 18446744073709551616 then some (.pv (.int (i ^ j.toNat))) else none
  | _, _ => none
@[simp] def negV : PV → Option XV
  | .int i => some (.pv (.int (-i)))
  | _ => none
@[simp] def notV : PV → Option XV
  | .bl b => some (.pv (.bl (!b)))
  | _ => none
/-- an index of any sign -/
def ixN (n : Nat) (i : Int) : Option Nat := if 0 ≤ i then (if i < n then some i.toNat else none) else if -(n : Int) ≤ i then some (i + n).toNat else none
def atI (xs : List PV) (i : Int) : Option PV := (ixN xs.length i).bind fun j => xs[j]?
def look (es : List PV) (k : PV) : Option PV := match es with
  | [] => none
  | .tup [a, b] :: r => if eqv a k then some b else look r k
  | _ :: _ => none
/-- keys of dicts: ints and texts; or tuples to a depth -/
@[simp] def isSK : PV → Bool
  | .int _ => true
  | .str _ => true
  | _ => false
def kD : Nat → PV → Bool
  | _, .non => true
  | _, .bl _ => true
  | _, .int _ => true
  | _, .str _ => true
  | n + 1, .tup xs => xs.all (kD n)
  | _, _ => false
def isNK : PV → Bool
  | .tup xs => xs.all (kD 7)
  | _ => false
def keyOf : PV → Option PV
  | .tup [a, _] => some a
  | _ => none
def dkOk (es : List PV) (k : PV) : Bool := (isSK k || isNK k) && es.all fun e => (keyOf e).any fun a => isSK a == isSK k
def ePut (k v : PV) : PV → PV
  | .tup [a, b] => if eqv a k then .tup [a, v] else .tup [a, b]
  | e => e
def getD (es : List PV) (k : PV) : Option PV := if dkOk es k = true then look es k else none
@[simp] def ixV : PV → PV → Option XV
  | .lst xs, .int i => (atI xs i).map XV.pv
  | .tup xs, .int i => (atI xs i).map XV.pv
  | .str x, .int i => if x.length ≤ szL then (L2.atI x.cps.toList i).map fun c => .pv (.str ⟨#[c]⟩) else none
  | .dic es, k => (getD es k).map XV.pv
  | _, _ => none
def cut {α : Type} (xs : List α) (lo hi : Option Int) : List α := (xs.drop (HT.sIx xs.length 0 lo)).take (HT.sIx xs.length xs.length hi - HT.sIx xs.length 0 lo)
@[simp] def slV : PV → Option Int → Option Int → Option XV
  | .lst xs, lo, hi => some (.own (.lst (cut xs lo hi)))
  | .tup xs, lo, hi => some (.pv (.tup (cut xs lo hi)))
  | _, _, _ => none
@[simp] def revV : PV → Option XV
  | .lst xs => some (.own (.lst xs.reverse))
  | _ => none

def inVs (x : PV) (xs : List PV) : Bool := xs.any fun y => eqv y x
@[simp] def isNonV : PV → Bool
  | .non => true
  | _ => false
@[simp] def isTV (b : Bool) : PV → Bool
  | .bl c => c == b
  | _ => false
@[simp] def ltV : PV → PV → Option Bool
  | .int i, .int j => some (decide (i < j))
  | .str x, .str y => some (decide (x.cps.toList < y.cps.toList))
  | _, _ => none
@[simp] def gtV : PV → PV → Option Bool
  | .int i, .int j => some (decide (j < i))
  | _, _ => none
@[simp] def leV : PV → PV → Option Bool
  | .int i, .int j => some (decide (i ≤ j))
  | _, _ => none
@[simp] def eqV (p q : PV) : Option Bool := if pl 20 p && pl 20 q then some (eqv p q) else none
@[simp] def inV : PV → PV → Option Bool
  | .str x, .str y => some (!(Builtin.Str.occurrences y x 0 y.length 1).isEmpty)
  | x, .lst xs => if pl 20 x && xs.all (pl 20) then some (inVs x xs) else none
  | x, .tup xs => if pl 20 x && xs.all (pl 20) then some (inVs x xs) else none
  | k, .dic es => if dkOk es k = true then some (look es k).isSome else none
  | _, _ => none
def cmpV : CmpOp → PV → PV → Option Bool
  | .Eq, p, q => eqV p q
  | .NotEq, p, q => (eqV p q).map (!·)
  | .Lt, p, q => ltV p q
  | .Gt, p, q => gtV p q
  | .LtE, p, q => leV p q
  | .GtE, p, q => leV q p
  | .In, p, q => inV p q
  | .NotIn, p, q => (inV p q).map (!·)
  | .Is, p, .non => some (isNonV p)
  | .Is, p, .bl b => some (isTV b p)
  | .IsNot, p, .non => some (!isNonV p)
  | .IsNot, p, .bl b => some (!isTV b p)
  | _, _, _ => none
def binV : Operator → PV → PV → Option XV
  | .Add => addV
  | .Sub => subV
  | .Mult => mulV
  | .FloorDiv => fdivV
  | .Mod => modV
  | .Pow => powV
  | _ => fun _ _ => none

/-! ### built-in functions -/
@[simp] def allInts : List PV → Option (List Int)
  | [] => some []
  | .int i :: r => (allInts r).map (i :: ·)
  | _ :: _ => none
@[simp] def allBls : List PV → Option (List Bool)
  | [] => some []
  | .bl i :: r => (allBls r).map (i :: ·)
  | _ :: _ => none
@[simp] def allStrs : List PV → Option (List Str)
  | [] => some []
  | .str i :: r => (allStrs r).map (i :: ·)
  | _ :: _ => none
@[simp] def items : PV → Option (List PV)
  | .lst xs => some xs
  | .tup xs => some xs
  | _ => none
@[simp] def litems : PV → Option (List PV)
  | .lst xs => some xs
  | _ => none
@[simp] def lenV : PV → Option XV
  | .lst xs => some (.pv (.int xs.length))
  | .tup xs => some (.pv (.int xs.length))
  | .str x => if x.length ≤ szL then some (.pv (.int x.length)) else none
  | _ => none
@[simp] def absV : PV → Option XV
  | .int i => some (.pv (.int (if i < 0 then -i else i)))
  | _ => none
@[simp] def intV : PV → Option XV
  | .int i => some (.pv (.int i))
  | .bl b => some (.pv (.int (if b then 1 else 0)))
  | _ => none
@[simp] def strV : PV → Option XV
  | .int i => if i.natAbs.log2 < 1920 then some (.pv (.str (toString i))) else none
  | _ => none
@[simp] def sumV (p : PV) : Option XV := (items p).bind fun xs => (allInts xs).map fun ns => .pv (.int ns.sum)
def maxL : List Int → Option Int
  | [] => none
  | i :: r => some (r.foldl (fun m j => if m < j then j else m) i)
def minL : List Int → Option Int
  | [] => none
  | i :: r => some (r.foldl (fun m j => if j < m then j else m) i)
@[simp] def maxV (p : PV) : Option XV := (items p).bind fun xs => (allInts xs).bind fun ns => (maxL ns).map fun m => .pv (.int m)
@[simp] def minV (p : PV) : Option XV := (items p).bind fun xs => (allInts xs).bind fun ns => (minL ns).map fun m => .pv (.int m)
@[simp] def allV (p : PV) : Option XV := (litems p).bind fun xs => (allBls xs).map fun bs => .pv (.bl (bs.all id))
@[simp] def anyV (p : PV) : Option XV := (litems p).bind fun xs => (allBls xs).map fun bs => .pv (.bl (bs.any id))
@[simp] def tupleV : PV → Option XV
  | .lst xs => some (.pv (.tup xs))
  | .tup xs => some (.pv (.tup xs))
  | _ => none
@[simp] def listV : PV → Option XV
  | .lst xs => some (.own (.lst xs))
  | .tup xs => some (.own (.lst xs))
  | .scr ns => some (.own (.lst (ns.map PV.int)))
  | _ => none
@[simp] def max2V : PV → PV → Option XV
  | .int i, .int j => some (.pv (.int (if j > i then j else i)))
  | _, _ => none
@[simp] def min2V : PV → PV → Option XV
  | .int i, .int j => some (.pv (.int (if j < i then j else i)))
  | _, _ => none
/-- isinstance against a built-in class -/
@[simp] def isiV : String → PV → Option XV
  | "int", .int _ => some (.pv (.bl true))
  | "int", .bl _ => some (.pv (.bl true))
  | "bool", .bl _ => some (.pv (.bl true))
  | "str", .str _ => some (.pv (.bl true))
  | "tuple", .tup _ => some (.pv (.bl true))
  | "list", .lst _ => some (.pv (.bl true))
  | "int", .non => some (.pv (.bl false))
  | "int", .str _ => some (.pv (.bl false))
  | "int", .tup _ => some (.pv (.bl false))
  | "int", .lst _ => some (.pv (.bl false))
  | "bool", .non => some (.pv (.bl false))
  | "bool", .int _ => some (.pv (.bl false))
  | "bool", .str _ => some (.pv (.bl false))
  | "bool", .tup _ => some (.pv (.bl false))
  | "bool", .lst _ => some (.pv (.bl false))
  | "str", .non => some (.pv (.bl false))
  | "str", .bl _ => some (.pv (.bl false))
  | "str", .int _ => some (.pv (.bl false))
  | "str", .tup _ => some (.pv (.bl false))
  | "str", .lst _ => some (.pv (.bl false))
  | "tuple", .non => some (.pv (.bl false))
  | "tuple", .bl _ => some (.pv (.bl false))
  | "tuple", .int _ => some (.pv (.bl false))
  | "tuple", .str _ => some (.pv (.bl false))
  | "tuple", .lst _ => some (.pv (.bl false))
  | "list", .non => some (.pv (.bl false))
  | "list", .bl _ => some (.pv (.bl false))
  | "list", .int _ => some (.pv (.bl false))
  | "list", .str _ => some (.pv (.bl false))
  | "list", .tup _ => some (.pv (.bl false))
  | _, _ => none
/-! ### sorted, methods -/
def insL {α : Type} (le : α → α → Bool) (a : α) : List α → List α
  | [] => [a]
  | b :: r => if le a b = true then a :: b :: r else b :: insL le a r
def isort {α : Type} (le : α → α → Bool) : List α → List α
  | [] => []
  | a :: r => insL le a (isort le r)
def sLe (p q : PV) : Bool := PySem.W.dataLe false toD p q
def isTupNE : PV → Bool
  | .tup (_ :: _) => true
  | _ => false
def notNT : PV → Bool
  | .non => false
  | .tup _ => false
  | _ => true
def sortOk (xs : List PV) : Bool := xs.all (pl 20) && (xs.all fun x => xs.all fun y => PySem.W.alike (toD x) (toD y)) && (xs.all isTupNE || xs.all notNT)
/-- without what was there already -/
def _root_.List.dedup' : List Int → List Int
  | [] => []
  | x :: xs => if xs.contains x then xs.dedup' else x :: xs.dedup'
@[simp] def sortV (p : PV) : Option XV := (items p).bind fun xs => if sortOk xs = true then some (.own (.lst (isort sLe xs))) else none
/-- sorted(set(xs)), xs ints -/
@[simp] def sortSetV : PV → Option XV
  | .lst xs => (allInts xs).bind fun ns => if ns.length < 62 then some (.own (.lst ((isort (fun a b => decide (a ≤ b)) ns).dedup'.map .int))) else none
  | _ => none
@[simp] def isTupV : PV → Bool
  | .tup _ => true
  | _ => false
@[simp] def isLstV : PV → Bool
  | .lst _ => true
  | _ => false
@[simp] def isDicV : PV → Bool
  | .dic _ => true
  | _ => false
@[simp] def countV : PV → PV → Option XV
  | .tup xs, p => if (pl 20 p && xs.all (pl 20)) = true then some (.pv (.int (xs.countP fun y => eqv y p))) else none
  | _, _ => none
@[simp] def indexV : PV → PV → Option XV
  | .lst xs, p => if (pl 20 p && xs.all (pl 20)) = true then (xs.findIdx? fun y => eqv y p).map fun i => .pv (.int (i : Nat)) else none
  | _, _ => none
/-! ### expressions -/
def eBad : E := fun _ => .bad
@[simp] def eC (v : PV) : E := fun ρ => .ok (.pv v) ρ
/-- a name whose value is kept: an object of the slot's own is nobody's from then on -/
@[simp] def eVar (i : Nat) : E := fun ρ => match ρ[i]? with
  | some (some (.pv v)) => .ok (.pv v) ρ
  | some (some (.own o)) => .ok (.pv o) (ρ.set i (some (.pv o)))
  | _ => .bad
@[simp] def oVar (i : Nat) : OP := fun ρ => match ρ[i]? with
  | some (some (.pv v)) => .ok (.v (.pv v)) ρ
  | some (some (.own _)) => .ok (.sl i) ρ
  | _ => .bad
@[simp] def oE (e : E) : OP := fun ρ => (e ρ).bd fun x ρ1 => .ok (.v x) ρ1
@[simp] def res {α : Type} : Option α → Env → Out α
  | some x, ρ => .ok x ρ
  | none, _ => .bad
@[simp] def eUn (f : PV → Option XV) (a : OP) : E := fun ρ => (a ρ).bd fun r ρ1 => res ((dr ρ1 r).bind f) ρ1
@[simp] def eBin (f : PV → PV → Option XV) (a b : OP) : E := fun ρ => (a ρ).bd fun r ρ1 => (b ρ1).bd fun q ρ2 => res ((dr ρ2 r).bind fun x => (dr ρ2 q).bind fun y => f x y) ρ2
@[simp] def eCmp (f : PV → PV → Option Bool) (a b : OP) : E := eBin (fun x y => (f x y).map fun c => .pv (.bl c)) a b
/-- a method of one argument: the receiver's kind is known ahead of the argument -/
@[simp] def eMe (ty : PV → Bool) (f : PV → PV → Option XV) (a b : OP) : E := fun ρ => (a ρ).bd fun r ρ1 => match (dr ρ1 r).map ty with
  | some true => (b ρ1).bd fun q ρ2 => res ((dr ρ2 r).bind fun x => (dr ρ2 q).bind fun y => f x y) ρ2
  | _ => .bad
@[simp] def eDic0 : E := fun ρ => .ok (.own (.dic [])) ρ
/-- two comparisons, the middle asked once -/
@[simp] def eChain (f g : PV → PV → Option Bool) (a b c : OP) : E := fun ρ => (a ρ).bd fun r ρ1 => (b ρ1).bd fun q ρ2 => (res ((dr ρ2 r).bind fun x => (dr ρ2 q).bind fun y => f x y) ρ2).bd fun k ρ3 =>
  if k = true then (c ρ3).bd fun z ρ4 => res ((dr ρ4 q).bind fun x => (dr ρ4 z).bind fun y => (g x y).map fun c => .pv (.bl c)) ρ4 else .ok (.pv (.bl false)) ρ3
@[simp] def eAnd (a b : E) : E := fun ρ => (a ρ).bd fun x ρ1 => match x with
  | .pv (.bl c) => if c = true then b ρ1 else .ok (.pv (.bl false)) ρ1
  | _ => .bad
@[simp] def eOr (a b : E) : E := fun ρ => (a ρ).bd fun x ρ1 => match x with
  | .pv (.bl c) => if c = true then .ok (.pv (.bl true)) ρ1 else b ρ1
  | _ => .bad
@[simp] def eIf (t : T) (a b : E) : E := fun ρ => (t ρ).bd fun c ρ1 => if c = true then a ρ1 else b ρ1
/-- a part of a slice -/
abbrev PO := Env → Out (Option Int)
@[simp] def poN : PO := fun ρ => .ok none ρ
@[simp] def poI (a : OP) : PO := fun ρ => (a ρ).bd fun r ρ1 => match dr ρ1 r with
  | some (.int i) => .ok (some i) ρ1
  | _ => .bad
@[simp] def eSl (a : OP) (lo hi : PO) : E := fun ρ => (a ρ).bd fun r ρ1 => (lo ρ1).bd fun l ρ2 => (hi ρ2).bd fun h ρ3 => res ((dr ρ3 r).bind fun x => slV x l h) ρ3
@[simp] def evs : List E → Env → Out (List XV)
  | [], ρ => .ok [] ρ
  | e :: es, ρ => (e ρ).bd fun x ρ1 => (evs es ρ1).bd fun xs ρ2 => .ok (x :: xs) ρ2
@[simp] def eTup (es : List E) : E := fun ρ => (evs es ρ).bd fun xs ρ1 => .ok (.pv (.tup (xs.map XV.val))) ρ1
@[simp] def eLst (es : List E) : E := fun ρ => (evs es ρ).bd fun xs ρ1 => .ok (.own (.lst (xs.map XV.val))) ρ1

/-! ### tests -/
@[simp] def tVal (e : E) : T := fun ρ => (e ρ).bd fun x ρ1 => match x with
  | .pv (.bl c) => .ok c ρ1
  | _ => .bad
@[simp] def tCmp (f : PV → PV → Option Bool) (a b : OP) : T := fun ρ => (a ρ).bd fun r ρ1 => (b ρ1).bd fun q ρ2 => res ((dr ρ2 r).bind fun x => (dr ρ2 q).bind fun y => f x y) ρ2
@[simp] def tNot (t : T) : T := fun ρ => (t ρ).bd fun c ρ1 => .ok (!c) ρ1
@[simp] def tAnd (t u : T) : T := fun ρ => (t ρ).bd fun c ρ1 => if c = true then u ρ1 else .ok false ρ1
@[simp] def tOr (t u : T) : T := fun ρ => (t ρ).bd fun c ρ1 => if c = true then .ok true ρ1 else u ρ1

/-! ### targets, what is walked -/
inductive TG where
  | nm (i : Nat) | tp (ts : List TG)
mutual
/-- the slots of a target -/
def tgS : TG → List Nat
  | .nm i => [i]
  | .tp ts => tgsS ts
def tgsS : List TG → List Nat
  | [] => []
  | t :: ts => tgS t ++ tgsS ts
end
mutual
def bT : TG → XV → Env → Out Unit
  | .nm i, x, ρ => .ok () (ρ.set i (some x))
  | .tp ts, x, ρ => match x.val with
    | .tup xs => bTs ts xs ρ
    | _ => .bad
def bTs : List TG → List PV → Env → Out Unit
  | [], [], ρ => .ok () ρ
  | t :: ts, x :: xs, ρ => (bT t (.pv x) ρ).bd fun _ ρ1 => bTs ts xs ρ1
  | _, _, _ => .bad
end
abbrev Src := Env → Out (List PV)
@[simp] def walked : PV → Option (List PV)
  | .lst xs => some xs
  | .tup xs => some xs
  | .str x => some (x.cps.toList.map fun c => .str ⟨#[c]⟩)
  | _ => none
@[simp] def srE (e : E) : Src := fun ρ => (e ρ).bd fun x ρ1 => res (walked x.val) ρ1
def rgL (lo hi : Int) : List PV := (List.range (hi - lo).toNat).map fun i => .int (lo + (i : Nat))
def rgOk (lo hi : Int) : Bool := decide (-1000000000000 ≤ lo) && decide (lo ≤ 1000000000000) && decide (-1000000000000 ≤ hi) && decide (hi ≤ 1000000000000) && decide (hi - lo ≤ 16000000)
@[simp] def rgV (lo hi : PV) : Option (List PV) := match lo, hi with
  | .int i, .int j => if rgOk i j then some (rgL i j) else none
  | _, _ => none
@[simp] def srR1 (a : OP) : Src := fun ρ => (a ρ).bd fun r ρ1 => res ((dr ρ1 r).bind fun x => rgV (.int 0) x) ρ1
@[simp] def srR2 (a b : OP) : Src := fun ρ => (a ρ).bd fun r ρ1 => (b ρ1).bd fun q ρ2 => res ((dr ρ2 r).bind fun x => (dr ρ2 q).bind fun y => rgV x y) ρ2
def zipL : List PV → List PV → List PV
  | x :: xs, y :: ys => .tup [x, y] :: zipL xs ys
  | _, _ => []
@[simp] def zipV : PV → PV → Option (List PV)
  | .lst xs, .lst ys => some (zipL xs ys)
  | .tup xs, .tup ys => some (zipL xs ys)
  | _, _ => none
@[simp] def srZip (a b : E) : Src := fun ρ => (evs [a, b] ρ).bd fun xs ρ1 => match xs with
  | [x, y] => res (zipV x.val y.val) ρ1
  | _ => .bad
def enumL (k : Int) : List PV → List PV
  | x :: xs => .tup [.int k, x] :: enumL (k + 1) xs
  | [] => []
@[simp] def srEnum (a : E) : Src := fun ρ => (evs [a] ρ).bd fun xs ρ1 => match xs with
  | [x] => res ((items x.val).map fun xs => enumL 0 xs) ρ1
  | _ => .bad
/-- list(range(..)) -/
@[simp] def eOfL (s : Src) : E := fun ρ => (s ρ).bd fun xs ρ1 => .ok (.own (.lst xs)) ρ1

/-! ### comprehensions -/
@[simp] def wipe : List Nat → Env → Env
  | [], ρ => ρ
  | v :: vs, ρ => (wipe vs ρ).set v none
@[simp] def noOwn : List Nat → Env → Bool
  | [], _ => true
  | v :: vs, ρ => (match ρ[v]? with
    | some (some (.own _)) => false
    | _ => true) && noOwn vs ρ
/-- the slots vs as they stand in ρ0 -/
@[simp] def back : List Nat → Env → Env → Env
  | [], _, ρ => ρ
  | v :: vs, ρ0, ρ => (back vs ρ0 ρ).set v (ρ0[v]?.getD none)
@[simp] def nox {α : Type} : Out α → Out α
  | .exc _ _ _ => .bad
  | o => o
def lcL (vs : List Nat) (t : TG) (tst : T) (e : E) : List PV → Env → Out (List PV)
  | [], ρ => .ok [] ρ
  | x :: xs, ρ => (bT t (.pv x) ρ).bd fun _ ρ1 => (tst ρ1).bd fun c ρ2 =>
    if c = true then (e ρ2).bd fun y ρ3 => (lcL vs t tst e xs (wipe vs ρ3)).bd fun ys ρ4 => .ok (y.val :: ys) ρ4
    else lcL vs t tst e xs (wipe vs ρ2)
@[simp] def tYes : T := fun ρ => .ok true ρ
def eLc (vs : List Nat) (s : Src) (t : TG) (tst : T) (e : E) : E := fun ρ => (s ρ).bd fun xs ρ1 =>
  if noOwn vs ρ1 = true then (nox (lcL vs t tst e xs (wipe vs ρ1))).bd fun ys ρ2 => if ys.length ≤ szL then .ok (.own (.lst ys)) (back vs ρ1 ρ2) else .bad else .bad
/-- two clauses: the inner one's names are vs1 -/
def lcL2 (vs vs1 : List Nat) (t : TG) (tst : T) (s1 : Src) (t1 : TG) (tst1 : T) (e : E) : List PV → Env → Out (List PV)
  | [], ρ => .ok [] ρ
  | x :: xs, ρ => (bT t (.pv x) ρ).bd fun _ ρ1 => (tst ρ1).bd fun c ρ2 =>
    if c = true then (s1 ρ2).bd fun zs ρ3 => (lcL vs1 t1 tst1 e zs (wipe vs1 ρ3)).bd fun ys ρ4 => (lcL2 vs vs1 t tst s1 t1 tst1 e xs (wipe vs ρ4)).bd fun ws ρ5 => .ok (ys ++ ws) ρ5
    else lcL2 vs vs1 t tst s1 t1 tst1 e xs (wipe vs ρ2)
def eLc2 (vs vs1 : List Nat) (s : Src) (t : TG) (tst : T) (s1 : Src) (t1 : TG) (tst1 : T) (e : E) : E := fun ρ => (s ρ).bd fun xs ρ1 =>
  if noOwn vs ρ1 = true then (nox (lcL2 vs vs1 t tst s1 t1 tst1 e xs (wipe vs ρ1))).bd fun ys ρ2 => if ys.length ≤ szL then .ok (.own (.lst ys)) (back vs ρ1 ρ2) else .bad else .bad

/-! ### calls -/
/-- the arguments: an object of a slot's own is handed over where the def changes its parameter -/
@[simp] def argsOf (ρ : Env) : List RV → Option (List XV)
  | [] => some []
  | .v x :: r => (argsOf ρ r).map (x :: ·)
  | .sl i :: r => match ρ[i]? with
    | some (some x) => (argsOf ρ r).map (x :: ·)
    | _ => none
@[simp] def slots : List RV → List Nat
  | [] => []
  | .v _ :: r => slots r
  | .sl i :: r => i :: slots r
/-- behind the call: the slots that were handed over -/
@[simp] def putBack : List RV → List (Option XV) → Env → Env
  | .sl i :: rs, o :: os, ρ => (putBack rs os ρ).set i o
  | .v _ :: rs, _ :: os, ρ => putBack rs os ρ
  | _, _, ρ => ρ
@[simp] def kill : List RV → Env → Env
  | .sl i :: rs, ρ => (kill rs ρ).set i none
  | .v _ :: rs, ρ => kill rs ρ
  | [], ρ => ρ
@[simp] def ops : List OP → Env → Out (List RV)
  | [], ρ => .ok [] ρ
  | e :: es, ρ => (e ρ).bd fun x ρ1 => (ops es ρ1).bd fun xs ρ2 => .ok (x :: xs) ρ2
@[simp] def eCall (Φ : List XV → FOut) (as : List OP) : E := fun ρ => (ops as ρ).bd fun rs ρ1 =>
  if (slots rs).Nodup then match argsOf ρ1 rs with
    | some xs => (match Φ xs with
      | .ok r outs => .ok r (putBack rs outs ρ1)
      | .exc c fs => .exc c fs (kill rs ρ1)
      | .bad => .bad)
    | none => .bad
  else .bad
/-- a value that is not the def's to change -/
@[simp] def oPv (e : E) : OP := fun ρ => (e ρ).bd fun x ρ1 => .ok (.v (.pv x.val)) ρ1
/-- the slot i holds a def -/
@[simp] def eCallV (ok : Str → Bool) (Φ : Str → List XV → FOut) (i : Nat) (as : List OP) : E := fun ρ => match ρ[i]? with
  | some (some (.pv (.fn f))) => if ok f = true then eCall (Φ f) as ρ else .bad
  | _ => .bad

/-! ### statements -/
@[simp] def sNx : S := fun ρ => .ok .nx ρ
@[simp] def sBad : S := fun _ => .bad
@[simp] def sSeq (a b : S) : S := fun ρ => (a ρ).bd fun f ρ1 => match f with
  | .nx => b ρ1
  | .brk => .ok .brk ρ1
  | .cnt => .ok .cnt ρ1
  | .ret x => .ok (.ret x) ρ1
@[simp] def sAsg (t : TG) (e : E) : S := fun ρ => (e ρ).bd fun x ρ1 => (bT t x ρ1).bd fun _ ρ2 => .ok .nx ρ2
def putD (es : List PV) (k v : PV) : List PV := if (look es k).isSome = true then es.map (ePut k v) else es ++ [.tup [k, v]]
/-- slot i [k] = v -/
def setIx (i : Nat) (k v : PV) (ρ : Env) : Out Unit := match ρ[i]? with
  | some (some (.own (.lst xs))) => (match k with
    | .int j => (match ixN xs.length j with
      | some m => .ok () (ρ.set i (some (.own (.lst (xs.set m v)))))
      | none => .bad)
    | _ => .bad)
  | some (some (.own (.dic es))) => if (dkOk es k && decide (es.length < szL)) = true then .ok () (ρ.set i (some (.own (.dic (putD es k v))))) else .bad
  | _ => .bad
/-- a target in a row of targets: a name, or slot i [k] -/
inductive LT where
  | nm (i : Nat) | ix (i : Nat) (k : OP)
@[simp] def asgL : List LT → List XV → Env → Out Unit
  | [], [], ρ => .ok () ρ
  | .nm i :: ts, x :: xs, ρ => asgL ts xs (ρ.set i (some x))
  | .ix i k :: ts, x :: xs, ρ => match ρ[i]? with
    | some (some (.own _)) => (k ρ).bd fun r ρ1 => (match dr ρ1 r with
      | some j => (setIx i j x.val ρ1).bd fun _ ρ2 => asgL ts xs ρ2
      | none => .bad)
    | _ => .bad
  | _, _, _ => .bad
@[simp] def sPar (ts : List LT) (es : List E) : S := fun ρ => (evs es ρ).bd fun xs ρ1 => (asgL ts xs ρ1).bd fun _ ρ2 => .ok .nx ρ2
@[simp] def sStI (i : Nat) (k : OP) (e : E) : S := fun ρ => (e ρ).bd fun x ρ1 => (asgL [.ix i k] [x] ρ1).bd fun _ ρ2 => .ok .nx ρ2
/-- slot i .append(e) -/
@[simp] def sApp (i : Nat) (e : E) : S := fun ρ => match ρ[i]? with
  | some (some (.own (.lst _))) => (e ρ).bd fun x ρ1 => (match ρ1[i]? with
    | some (some (.own (.lst xs))) => if xs.length < szL then .ok .nx (ρ1.set i (some (.own (.lst (xs ++ [x.val]))))) else .bad
    | _ => .bad)
  | _ => .bad
@[simp] def sExpr (e : E) : S := fun ρ => (e ρ).bd fun _ ρ1 => .ok .nx ρ1
@[simp] def sRet (e : E) : S := fun ρ => (e ρ).bd fun x ρ1 => .ok (.ret x) ρ1
/-- return of a name: its object goes along -/
@[simp] def sRetV (i : Nat) : S := fun ρ => match ρ[i]? with
  | some (some (.pv v)) => .ok (.ret (.pv v)) ρ
  | some (some (.own o)) => .ok (.ret (.own o)) (ρ.set i none)
  | _ => .bad
@[simp] def sRetN : S := fun ρ => .ok (.ret (.pv .non)) ρ
@[simp] def sIf (t : T) (a b : S) : S := fun ρ => (t ρ).bd fun c ρ1 => if c = true then a ρ1 else b ρ1
def whl (t : T) (b : S) : Nat → S
  | 0, _ => .bad
  | n + 1, ρ => (t ρ).bd fun c ρ1 => if c = true then (b ρ1).bd fun f ρ2 => (match f with
      | .nx => whl t b n ρ2
      | .cnt => whl t b n ρ2
      | .brk => .ok .nx ρ2
      | .ret x => .ok (.ret x) ρ2)
    else .ok .nx ρ1
def forL (t : TG) (b : S) : List PV → S
  | [], ρ => .ok .nx ρ
  | x :: xs, ρ => (bT t (.pv x) ρ).bd fun _ ρ1 => (b ρ1).bd fun f ρ2 => match f with
    | .nx => forL t b xs ρ2
    | .cnt => forL t b xs ρ2
    | .brk => .ok .nx ρ2
    | .ret x => .ok (.ret x) ρ2
@[simp] def sFor (s : Src) (t : TG) (b : S) : S := fun ρ => (s ρ).bd fun xs ρ1 => forL t b xs ρ1
@[simp] def sRaise (c : Str) : S := fun ρ => .exc c [] ρ

/-! ### a def's run -/
structure DefR where
  np : Nat
  nN : Nat
  io : List Nat
  body : S
/-- what the caller gets back: the parameters that the def changes -/
def outsOf (np : Nat) (io : List Nat) (ρ : Env) : List (Option XV) := (List.range np).map fun i => if io.contains i then ρ[i]?.getD none else none
/-- only parameters that the def changes get an object of their own -/
def ownsIn (io : List Nat) : Nat → List XV → Bool
  | _, [] => true
  | k, x :: xs => (!x.isOwn || io.contains k) && ownsIn io (k + 1) xs
def runBody (d : DefR) (xs : List XV) : FOut := if xs.length = d.np ∧ ownsIn d.io 0 xs = true then
    match d.body (xs.map some ++ List.replicate (d.nN - d.np) none) with
    | .ok (.ret x) ρ => .ok x (outsOf d.np d.io ρ)
    | .ok .nx ρ => .ok (.pv .non) (outsOf d.np d.io ρ)
    | .ok _ _ => .bad
    | .exc c fs _ => .exc c fs
    | .bad => .bad
  else .bad

/-! ### the compiler -/
structure CC where
  N : List Str
  sc : List (Str × NameKind)
  /-- the module's constants and defs -/
  G : Str → Option PV
  /-- a built-in's name that the module leaves as it is -/
  bi : Str → Bool
  /-- the parameters that a def changes -/
  io : Str → List Nat
  /-- exception classes without an __init__ -/
  ex : Str → Bool
  /-- this def's parameters that it changes -/
  mine : List Nat
  Φ : Str → List XV → FOut
  fuel : Nat
def CC.at (C : CC) (x : Str) : Option Nat := if (x == "__debug__" || x == "__classdict__") = true then none else C.N.findIdx? (· == x)
def CC.var (C : CC) (x : Str) : Option Nat := match C.sc.lookup x with
  | some .local => C.at x
  | some .cell => C.at x
  | some .free => C.at x
  | _ => none
def CC.loc (C : CC) (x : Str) : Option Nat := match C.sc.lookup x with
  | some .local => C.at x
  | some .cell => C.at x
  | _ => none
def CC.glob (C : CC) (x : Str) : Bool := match C.sc.lookup x with
  | some .globalImplicit => !(x == "__debug__")
  | _ => false
def CC.isB (C : CC) (f x : Str) : Bool := f == x && C.glob f && C.bi f
/-- a def of the module by its own name -/
def CC.isD (C : CC) (f : Str) : Bool := match C.G f with
  | some (.fn g) => g == f
  | _ => false
def cConst : Const → E
  | .int i => eC (.int i)
  | .str x => eC (.str x)
  | .bool b => eC (.bl b)
  | .none => eC .non
  | _ => eBad
def cName (C : CC) (x : Str) : E := match C.var x with
  | some i => eVar i
  | none => if C.glob x then (match C.G x with
    | some v => eC v
    | none => eBad) else eBad
abbrev CEx := CC → Expr → E
abbrev CTx := CC → Expr → T
def cP (rE : CEx) (C : CC) (e : Expr) : OP := match e with
  | .Name x _ => (match C.var x with
    | some i => oVar i
    | none => oE (rE C e))
  | e => oE (rE C e)
def cPart (rE : CEx) (C : CC) : Option Expr → PO
  | none => poN
  | some e => poI (cP rE C e)
def isSet : Expr → Bool
  | .Set _ _ _ => true
  | _ => false
def isStar : Expr → Bool
  | .Starred _ _ => true
  | _ => false
def cBool (rE : CEx) (C : CC) (op : BoolOp) : List Expr → E
  | [] => eBad
  | [a] => rE C a
  | a :: b :: r => match op with
    | .And => eAnd (rE C a) (cBool rE C op (b :: r))
    | .Or => eOr (rE C a) (cBool rE C op (b :: r))
def cBoolT (rT : CTx) (C : CC) (op : BoolOp) : List Expr → T
  | [] => fun _ => .bad
  | [a] => rT C a
  | a :: b :: r => match op with
    | .And => tAnd (rT C a) (cBoolT rT C op (b :: r))
    | .Or => tOr (rT C a) (cBoolT rT C op (b :: r))
/-- the arguments of a def: slots that it changes are handed over -/
def cArgs (rE : CEx) (C : CC) (io : List Nat) : Nat → List Expr → List OP
  | _, [] => []
  | k, e :: es => (if io.contains k then cP rE C e else oPv (rE C e)) :: cArgs rE C io (k + 1) es
def tyName (x : Str) : Option String := if x == "int" then some "int" else if x == "bool" then some "bool" else if x == "str" then some "str" else if x == "tuple" then some "tuple" else if x == "list" then some "list" else none
def cRange (rE : CEx) (C : CC) : List Expr → Option Src
  | [a] => if isStar a = true then none else some (srR1 (cP rE C a))
  | [a, b] => if (isStar a || isStar b) = true then none else some (srR2 (cP rE C a) (cP rE C b))
  | _ => none
def cB1 (f : Str) : Option (PV → Option XV) :=
  if f == "len" then some lenV else if f == "abs" then some absV else if f == "int" then some intV else if f == "str" then some strV else if f == "sum" then some sumV else
  if f == "max" then some maxV else if f == "min" then some minV else if f == "all" then some allV else if f == "any" then some anyV else if f == "tuple" then some tupleV else if f == "list" then some listV else if f == "sorted" then some sortV else none
def cB2 (f : Str) : Option (PV → PV → Option XV) := if f == "max" then some max2V else if f == "min" then some min2V else none
def cBi (rE : CEx) (C : CC) (f : Str) : List Expr → E
  | [.Call (.Name r p1) as [] p2] => if (f == "list" && C.isB r "range") = true then (match cRange rE C as with
      | some s => eOfL s
      | none => eBad) else if (f == "sorted" && C.isB r "set") = true then (match as with
      | [a] => if isStar a = true then eBad else eUn sortSetV (cP rE C a)
      | _ => eBad) else (match cB1 f with
      | some g => eUn g (cP rE C (.Call (.Name r p1) as [] p2))
      | none => eBad)
  | [a] => (match cB1 f with
      | some g => eUn g (cP rE C a)
      | none => eBad)
  | [a, .Name ty p] => if f == "isinstance" then (if (C.glob ty && C.bi ty) = true then (match tyName ty with
      | some n => eUn (isiV n) (cP rE C a)
      | none => eBad) else eBad) else (match cB2 f with
      | some g => eBin g (cP rE C a) (cP rE C (.Name ty p))
      | none => eBad)
  | [a, b] => (match cB2 f with
      | some g => eBin g (cP rE C a) (cP rE C b)
      | none => eBad)
  | _ => eBad
def cCall (rE : CEx) (C : CC) (f : Str) (args : List Expr) : E := match args with
  | [] => eBad
  | a :: as => if (a :: as).any isStar = true then eBad else match C.var f with
    | some i => eCallV C.isD C.Φ i (cArgs rE C [] 0 (a :: as))
    | none => if C.glob f = true then (match C.G f with
      | some (.fn g) => eCall (C.Φ g) (cArgs rE C (C.io g) 0 (a :: as))
      | some _ => eBad
      | none => if C.bi f = true then cBi rE C f (a :: as) else eBad) else eBad
mutual
def cTG (C : CC) : Expr → Option TG
  | .Name x _ => (C.loc x).bind fun i => if C.mine.contains i then none else some (.nm i)
  | .Tuple ts _ _ => (cTGs C ts).map TG.tp
  | _ => none
def cTGs (C : CC) : List Expr → Option (List TG)
  | [] => some []
  | t :: ts => (cTG C t).bind fun a => (cTGs C ts).map (a :: ·)
end
/-- what is walked; two: the target is a display of names -/
def cSrc (rE : CEx) (C : CC) (two : Bool) : Expr → Option Src
  | .Call (.Name f p) [a] [] q => if isStar a = true then none else if C.isB f "range" = true then some (srR1 (cP rE C a)) else if (C.isB f "enumerate" && two) = true then some (srEnum (rE C a)) else some (srE (rE C (.Call (.Name f p) [a] [] q)))
  | .Call (.Name f p) [a, b] [] q => if (isStar a || isStar b) = true then none else if C.isB f "range" = true then some (srR2 (cP rE C a) (cP rE C b)) else if (C.isB f "zip" && two) = true then some (srZip (rE C a) (rE C b)) else some (srE (rE C (.Call (.Name f p) [a, b] [] q)))
  | .Set _ _ _ => none
  | e => some (srE (rE C e))
def isTup : Expr → Bool
  | .Tuple _ _ _ => true
  | _ => false
/-- the names of a comprehension's block that are its own, by their slots -/
def ownIx (C : CC) : List (Str × NameKind) → Option (List (Str × Nat))
  | [] => some []
  | (x, k) :: r => match k with
    | .local => if x == ".0" then (if C.N.contains x = true then none else ownIx C r) else (C.at x).bind fun i => (ownIx C r).map ((x, i) :: ·)
    | .cell => (C.at x).bind fun i => (ownIx C r).map ((x, i) :: ·)
    | _ => ownIx C r
def CC.blk (C : CC) (sc : Scope) : CC := { C with sc := sc.names, mine := [] }
def cTests (rT : CTx) (C : CC) : List Expr → Option T
  | [] => some tYes
  | [t] => some (rT C t)
  | _ => none
/-- the block's names are as the rules want them (BlkOk) -/
def blkB (C : CC) (sc : Scope) : Bool := decide (sc.kind = .function) && sc.names.all (fun y => decide (sc.names.lookup y.1 = some y.2)) && sc.names.all (fun y => match y.2 with
  | .free => (match C.sc.lookup y.1 with
    | some .cell => true
    | some .free => true
    | _ => false)
  | _ => true)
def cComp (rE : CEx) (rT : CTx) (C : CC) (elt : Expr) (gs : List Comprehension) (sc : Scope) : E :=
  if blkB C sc = true then match ownIx C sc.names with
    | some own => (match gs with
      | [⟨t, it, ifs, 0⟩] => (match cSrc rE C (isTup t) it, cTG (C.blk sc) t, cTests rT (C.blk sc) ifs with
        | some s, some g, some tst => if (tgS g).all (own.map (·.2)).contains = true then eLc (own.map (·.2)) s g tst (rE (C.blk sc) elt) else eBad
        | _, _, _ => eBad)
      | [⟨t, it, ifs, 0⟩, ⟨t1, it1, ifs1, 0⟩] => (match cSrc rE C (isTup t) it, cTG (C.blk sc) t, cTests rT (C.blk sc) ifs, cSrc rE (C.blk sc) (isTup t1) it1, cTG (C.blk sc) t1, cTests rT (C.blk sc) ifs1 with
        | some s, some g, some tst, some s1, some g1, some tst1 => if ((tgS g).all (own.map (·.2)).contains && (tgS g1).all (own.map (·.2)).contains && (tgS g).all fun i => !(tgS g1).contains i) = true then eLc2 (own.map (·.2)) (tgS g1) s g tst s1 g1 tst1 (rE (C.blk sc) elt) else eBad
        | _, _, _, _, _, _ => eBad)
      | _ => eBad)
    | none => eBad
  else eBad
def isNeg1 : Option Expr → Bool
  | some (.UnaryOp .USub (.Constant (.int 1) _ _) _) => true
  | _ => false
def isCall0 : Expr → Bool
  | .Call _ [] [] _ => true
  | _ => false
def stepE (rE : CEx) (rT : CTx) (C : CC) : Expr → E
  | .Constant c _ _ => cConst c
  | .Name x _ => cName C x
  | .BinOp a op b _ => eBin (binV op) (cP rE C a) (cP rE C b)
  | .UnaryOp .USub a _ => eUn negV (cP rE C a)
  | .UnaryOp .Not a _ => eUn notV (cP rE C a)
  | .BoolOp op vs _ => cBool rE C op vs
  | .Compare a [op] [b] _ => if isSet b = true then eBad else eCmp (cmpV op) (cP rE C a) (cP rE C b)
  | .Compare a [op, op2] [b, c] _ => if (isSet b || isSet c) = true then eBad else eChain (cmpV op) (cmpV op2) (cP rE C a) (cP rE C b) (cP rE C c)
  | .IfExp t a b _ => eIf (rT C t) (rE C a) (rE C b)
  | .Subscript a (.Slice lo hi none _) _ => eSl (cP rE C a) (cPart rE C lo) (cPart rE C hi)
  | .Subscript a (.Slice none none (some st) _) _ => if isNeg1 (some st) = true then eUn revV (cP rE C a) else eBad
  | .Subscript _ (.Slice _ _ _ _) _ => eBad
  | .Subscript a i _ => eBin ixV (cP rE C a) (cP rE C i)
  | .Tuple es _ _ => if (es.any isStar || decide (1000 < es.length)) = true then eBad else eTup (es.map (rE C))
  | .List es _ => if (es.any isStar || decide (1000 < es.length)) = true then eBad else eLst (es.map (rE C))
  | .Call (.Name f _) args [] _ => cCall rE C f args
  | .Call (.Attribute o m ap) [a] [] cp => if (isStar a || ap.endLine != cp.line || isCall0 o) = true then eBad else if m == "index" then eMe isLstV indexV (cP rE C o) (cP rE C a) else eBad
  | .Dict [] [] _ => eDic0
  | .ListComp elt gs sc _ => cComp rE rT C elt gs sc
  | _ => eBad
def stepT (rE : CEx) (rT : CTx) (C : CC) : Expr → T
  | .UnaryOp .Not a _ => tNot (rT C a)
  | .BoolOp op vs _ => cBoolT rT C op vs
  | .Compare a [op] [b] _ => if isSet b = true then fun _ => .bad else tCmp (cmpV op) (cP rE C a) (cP rE C b)
  | .Compare a [op, op2] [b, c] _ => if (isSet b || isSet c) = true then fun _ => .bad else tVal (eChain (cmpV op) (cmpV op2) (cP rE C a) (cP rE C b) (cP rE C c))
  | .Compare _ _ _ _ => fun _ => .bad
  | .IfExp _ _ _ _ => fun _ => .bad
  | e => tVal (stepE rE rT C e)
def cET : Nat → CEx × CTx
  | 0 => (fun _ _ => eBad, fun _ _ _ => .bad)
  | d + 1 => (stepE (cET d).1 (cET d).2, stepT (cET d).1 (cET d).2)
/-- as deep as any text goes -/
def cE : CEx := (cET 40).1
def cT : CTx := (cET 40).2
def isSl : Expr → Bool
  | .Slice _ _ _ _ => true
  | _ => false
/-- a row of targets beside a row of values -/
def cLT (C : CC) : List Expr → Option (List LT)
  | [] => some []
  | .Name x _ :: ts => (C.loc x).bind fun i => if C.mine.contains i then none else (cLT C ts).map (LT.nm i :: ·)
  | .Subscript (.Name x _) k _ :: ts => (C.var x).bind fun i => match k with
    | .Slice _ _ _ _ => none
    | k => (cLT C ts).map (LT.ix i (cP cE C k) :: ·)
  | _ :: _ => none
def allNm : List LT → Bool
  | [] => true
  | .nm _ :: r => allNm r
  | .ix _ _ :: _ => false
def ltIx : List LT → List Nat
  | [] => []
  | .nm i :: r => i :: ltIx r
  | .ix _ _ :: r => ltIx r
/-- the names of a row of targets, as the model picks them -/
def nmsX (kd : Str → Option NameKind) (ts : List Expr) : List Str := ts.filterMap fun
    | .Name id pos => if kd id == some .local && pos.line == (ts.head?.map (·.pos.line)).getD 0 then some id else none
    | _ => none
/-- the row's stores are as this part of the model tells them (swappedStores) -/
def parB (C : CC) (ts vs : List Expr) : Bool := decide (ts.length = vs.length) && !(vs.any isStar) && decide (vs.length ≤ 1000) &&
  ((nmsX (fun x => C.sc.lookup x) ts).length != ts.length || !(ts.length == 2 || ts.length == 3) || (nmsX (fun x => C.sc.lookup x) ts).eraseDups.length != (nmsX (fun x => C.sc.lookup x) ts).length || vs.all (foldedForSure 8) || !(vs.all (constantsAlone 8)))
def stepS (rS : CC → List Stmt → S) (C : CC) : Stmt → S
  | .Assign [.Tuple ts _ _] (.Tuple vs _ _) _ => if parB C ts vs = true then (match cLT C ts with
      | some ls => if (ltIx ls).Nodup then sPar ls (vs.map (cE C)) else sBad
      | none => sBad) else sBad
  | .Assign [.Subscript (.Name x _) k _] e _ => if isSl k = true then sBad else (match C.var x with
      | some i => sStI i (cP cE C k) (cE C e)
      | none => sBad)
  | .Assign [t] e _ => (match cTG C t with
      | some g => sAsg g (cE C e)
      | none => sBad)
  | .Expr (.Call (.Attribute (.Name x _) m ap) [e] [] cp) _ => if (m == "append" && !(isStar e) && ap.endLine == cp.line) = true then (match C.var x with
      | some i => sApp i (cE C e)
      | none => sBad) else sBad
  | .Expr (.Call f as ks p) _ => sExpr (cE C (.Call f as ks p))
  | .Expr (.Constant (.str _) _ _) _ => sNx
  | .If t a b _ => sIf (cT C t) (rS C a) (rS C b)
  | .While t b [] _ => fun ρ => whl (cT C t) (rS C b) C.fuel ρ
  | .For t it b [] _ => (match cSrc cE C (isTup t) it, cTG C t with
      | some s, some g => sFor s g (rS C b)
      | _, _ => sBad)
  | .Return (some (.Name x p)) _ => (match C.var x with
      | some i => if C.mine.contains i = true then sRet (cE C (.Name x p)) else sRetV i
      | none => sRet (cE C (.Name x p)))
  | .Return (some e) _ => sRet (cE C e)
  | .Return none _ => sRetN
  | .Raise (some (.Call (.Name c _) [.Constant (.str _) _ _] [] _)) none _ => if (C.glob c && C.ex c) = true then sRaise c else sBad
  | .Pass _ => sNx
  | .Break _ => fun ρ => .ok .brk ρ
  | .Continue _ => fun ρ => .ok .cnt ρ
  | _ => sBad
def cSs : Nat → CC → List Stmt → S
  | 0, _, _ => sBad
  | _ + 1, _, [] => sNx
  | d + 1, C, [st] => stepS (cSs d) C st
  | d + 1, C, st :: r => sSeq (stepS (cSs d) C st) (cSs d C r)
end Pi

/-! Pi, part 2: how values lie in the heap; what a combinator's reading is. -/
namespace Pi
open PySem PySem.Spec L2

abbrev NA := Addr → Prop
/-- the module's namespace, and the world -/
structure MG where
  f : Str → Option Value
  w : World
instance : CoeFun MG fun _ => Str → Option Value := ⟨MG.f⟩
@[reducible] def _root_.L2.Cx.mm (X : L2.Cx) : MG := ⟨X.mg, X.w⟩
/-! ### dicts -/
mutual
/-- a key of any depth -/
def nk : PV → Option NestedKey
  | .non => some .none
  | .bl b => some (.num (if b = true then 1 else 0))
  | .int i => some (.num i)
  | .str x => some (.text x)
  | .tup xs => (nks xs).map .tup
  | _ => none
def nks : List PV → Option (List NestedKey)
  | [] => some []
  | x :: xs => (nk x).bind fun k => (nks xs).map (k :: ·)
end
def keyP : Key → PV
  | .inl i => .int i
  | .inr x => .str x
def zipE : List PV → List PV → List PV
  | k :: ks, x :: xs => .tup [k, x] :: zipE ks xs
  | _, _ => []
abbrev NL : Type := List (NestedKey × Addr × Value)
/-- a dict whose keys are tuples of any depth -/
def nestO (w : World) (a : Addr) (L : NL) : HO := .ext fun h => (a == sysModules) = false ∧ L.length ≤ sizeLine ∧
  ∃ o es ep, h.get? a = some o ∧ o.ExactDict ∧ o.data = .dict es ep ∧ es.toList = L.map (fun x => (⟨x.1.hash w, .ref x.2.1, x.2.2⟩ : DictEntry)) ∧ (L.map (·.1)).Nodup
/-- how an object's content is made of what it holds -/
inductive Shp (mg : MG) (a : Addr) : PV → HO → List PV → List V → Prop
  | lst {xs : List PV} {vs : List V} : Shp mg a (.lst xs) (.lst vs) xs vs
  | dK {kvs : List (Key × V)} {xs : List PV} : Shp mg a (.dic (zipE (kvs.map fun p => keyP p.1) xs)) (.dK kvs) xs (kvs.map (·.2))
  | dN {ks ps : List PV} {L : NL} {ws : List V} : L ≠ [] → Paired (fun k (l : NestedKey × Addr × Value) => nk k = some l.1 ∧ l.1.depth ≤ 8) ks L → Paired RelV ws (L.map (·.2.2)) →
      Shp mg a (.dic (zipE ks ps)) (nestO mg.w a L) (ks ++ ps) (L.map (fun l => V.ref l.2.1) ++ ws)
def noTbl (o : HO) : Prop := ∀ ps, o ≠ .tbl ps
/-- an object that is changed -/
def Mut (o : HO) : Prop := (∀ ps, o ≠ .tbl ps) ∧ (∀ u, o ≠ .tup u) ∧ ∀ b u, o ≠ .frz b u
theorem Mut.lst {vs : List V} : Mut (.lst vs) := ⟨(by intro ps e; cases e), (by intro ps e; cases e), (by intro a b e; cases e)⟩
theorem Mut.nt {o : HO} (h : Mut o) : noTbl o := h.1
theorem Shp.mut {mg : MG} {a : Addr} {o : PV} {ob : HO} {xs : List PV} {vs : List V} (h : Shp mg a o ob xs vs) : Mut ob := by
  cases h with
  | lst => exact Mut.lst
  | dK => exact ⟨(by intro ps e; cases e), (by intro ps e; cases e), (by intro a b e; cases e)⟩
  | dN _ _ _ => exact ⟨(by intro ps e; cases e), (by intro ps e; cases e), (by intro a b e; cases e)⟩
/-- the law's script: known to the object, or the module's own -/
def Scr (K : PySem.W.Frag) (H : Hp) (a : Addr) (ns : List Int) : Prop := (∃ o, H a = some (.frz o (.lst (ns.map V.int)))) ∨ SqL K (fun _ => none) a (ns.map V.int)
section
variable (K : PySem.W.Frag) (mg : MG)
mutual
inductive RepV (N : NA) (H : Hp) : PV → V → Prop
  | non : RepV N H .non .non
  | bl (b : Bool) : RepV N H (.bl b) (.bl b)
  | int (i : Int) : RepV N H (.int i) (.int i)
  | str (x : Str) : RepV N H (.str x) (.str x)
  | fn {x : Str} {a : Addr} : mg x = some (.ref a) → RepV N H (.fn x) (.ref a)
  | tup {a : Addr} {vs : List V} {xs : List PV} : SqT K H a vs → RepVs N H xs vs → RepV N H (.tup xs) (.ref a)
  | obj {a : Addr} {o : PV} {ob : HO} {xs : List PV} {vs : List V} : H a = some ob → ¬ N a → Shp mg a o ob xs vs → RepVs N H xs vs → RepV N H o (.ref a)
  | scr {a : Addr} {ns : List Int} : Scr K H a ns → RepV N H (.scr ns) (.ref a)
inductive RepVs (N : NA) (H : Hp) : List PV → List V → Prop
  | nil : RepVs N H [] []
  | cons {x : PV} {v : V} {xs : List PV} {vs : List V} : RepV N H x v → RepVs N H xs vs → RepVs N H (x :: xs) (v :: vs)
end
/-- the object of a slot's own at a -/
inductive RepO (N : NA) (H : Hp) : PV → Addr → Prop
  | mk {a : Addr} {o : PV} {ob : HO} {xs : List PV} {vs : List V} : H a = some ob → Shp mg a o ob xs vs → RepVs K mg N H xs vs → RepO N H o a
/-- what is read of an operand: whoever owns the object itself -/
inductive RepC (N : NA) (H : Hp) : PV → V → Prop
  | val {p : PV} {v : V} : RepV K mg N H p v → RepC N H p v
  | own {o : PV} {a : Addr} : RepO K mg N H o a → RepC N H o (.ref a)
def OwnAt (ρ : Env) (σ : St) (i : Nat) (a : Addr) : Prop := ∃ o, ρ[i]? = some (some (.own o)) ∧ σ[i]? = some (some (.ref a))
def Own (ρ : Env) (σ : St) (a : Addr) : Prop := ∃ i, OwnAt ρ σ i a
abbrev NN (F : NA) (ρ : Env) (σ : St) : NA := fun a => F a ∨ Own ρ σ a
abbrev FF (F : NA) (a : Addr) : NA := fun b => F b ∨ b = a
structure RE (F : NA) (ρ : Env) (σ : St) (H : Hp) : Prop where
  len : ρ.length = σ.length
  pv : ∀ (i : Nat) (v : PV), ρ[i]? = some (some (.pv v)) → ∃ x, σ[i]? = some (some x) ∧ RepV K mg (NN F ρ σ) H v x
  own : ∀ (i : Nat) (o : PV), ρ[i]? = some (some (.own o)) → ∃ a, σ[i]? = some (some (.ref a)) ∧ RepO K mg (NN F ρ σ) H o a
  dist : ∀ i j a, OwnAt ρ σ i a → OwnAt ρ σ j a → i = j
  apart : ∀ a, F a → ¬ Own ρ σ a
  there : ∀ a, F a → ∃ o, H a = some o ∧ Mut o
structure Fr (ρ : Env) (σ : St) (H H' : Hp) : Prop where
  keep : ∀ a o, H a = some o → noTbl o → ¬ Own ρ σ a → H' a = some o
  up : ∀ a o, H a = some o → ∃ o', H' a = some o'
def LeO (ρ' ρ : Env) : Prop := ∀ (i : Nat) (o : PV), ρ'[i]? = some (some (.own o)) → ∃ o', ρ[i]? = some (some (.own o'))
def RX (F : NA) (ρ : Env) (σ : St) (H0 H : Hp) : XV → V → Prop
  | .pv p, v => RepV K mg (NN F ρ σ) H p v ∧ RE K mg F ρ σ H
  | .own o, v => ∃ a, v = .ref a ∧ H0 a = none ∧ ¬ F a ∧ ¬ Own ρ σ a ∧ RepO K mg (NN (FF F a) ρ σ) H o a ∧ RE K mg (FF F a) ρ σ H
/-- a result, made beside what stands -/
def NewX (N : NA) (H H' : Hp) : XV → V → Prop
  | .pv p, v => Same H H' ∧ RepV K mg N H' p v
  | .own o, v => ∃ a, v = .ref a ∧ H a = none ∧ Same H H' ∧ RepO K mg (FF N a) H' o a
end
section
variable {K : PySem.W.Frag} {mg : MG} {N N' F F' : NA} {H H' H0 H1 H2 : Hp} {ρ ρ' ρ1 ρ2 : Env} {σ : St}

theorem rd_tup {a : Addr} {vs : List V} (h : Rd H a (.tup vs)) : ∃ o, H a = some o ∧ noTbl o ∧ ∀ ws, o ≠ .lst ws := by
  rcases h with h | ⟨o, h⟩
  · exact ⟨_, h, (by intro ps e; cases e), (by intro ws e; cases e)⟩
  · exact ⟨_, h, (by intro ps e; cases e), (by intro ws e; cases e)⟩
theorem Same.rd {a : Addr} {u : HO} (s : Same H H') (h : Rd H a u) : Rd H' a u := by
  rcases h with h | ⟨o, h⟩
  · exact .inl (s _ _ h)
  · exact .inr ⟨o, s _ _ h⟩
theorem Same.sqT {a : Addr} {vs : List V} (s : Same H H') (h : SqT K H a vs) : SqT K H' a vs := by
  rcases h with h | h
  · exact .inl (Same.rd s h)
  · exact .inr h
theorem Scr.same {a : Addr} {ns : List Int} (s : Same H H') (h : Scr K H a ns) : Scr K H' a ns := by
  rcases h with ⟨o, h⟩ | h
  · exact .inl ⟨o, s _ _ h⟩
  · exact .inr h
theorem Scr.sqL {a : Addr} {ns : List Int} (h : Scr K H a ns) : SqL K H a (ns.map V.int) := by
  rcases h with ⟨o, h⟩ | (h | ⟨o, h⟩) | h
  · exact .inl (.inr ⟨o, h⟩)
  · cases h
  · cases h
  · exact .inr h
theorem rd_some {a : Addr} {u : HO} (h : Rd H a u) : H a ≠ none := by
  rcases h with h | ⟨o, h⟩ <;> rw [h] <;> simp

mutual
theorem RepV.mono (hT : ∀ a vs, SqT K H a vs → SqT K H' a vs) (hL : ∀ a ob, H a = some ob → Mut ob → ¬ N a → H' a = some ob ∧ ¬ N' a) (hS : ∀ a ns, Scr K H a ns → Scr K H' a ns) : ∀ {p : PV} {v : V}, RepV K mg N H p v → RepV K mg N' H' p v
  | _, _, .non => .non
  | _, _, .bl b => .bl b
  | _, _, .int i => .int i
  | _, _, .str x => .str x
  | _, _, .fn h => .fn h
  | _, _, .tup h hs => .tup (hT _ _ h) (RepVs.mono hT hL hS hs)
  | _, _, .obj h n sh hs => .obj (hL _ _ h sh.mut n).1 (hL _ _ h sh.mut n).2 sh (RepVs.mono hT hL hS hs)
  | _, _, .scr h => .scr (hS _ _ h)
theorem RepVs.mono (hT : ∀ a vs, SqT K H a vs → SqT K H' a vs) (hL : ∀ a ob, H a = some ob → Mut ob → ¬ N a → H' a = some ob ∧ ¬ N' a) (hS : ∀ a ns, Scr K H a ns → Scr K H' a ns) : ∀ {p : List PV} {v : List V}, RepVs K mg N H p v → RepVs K mg N' H' p v
  | _, _, .nil => .nil
  | _, _, .cons h hs => .cons (RepV.mono hT hL hS h) (RepVs.mono hT hL hS hs)
end
theorem RepVs.length : ∀ {xs : List PV} {vs : List V}, RepVs K mg N H xs vs → xs.length = vs.length
  | _, _, .nil => rfl
  | _, _, .cons _ t => congrArg Nat.succ (RepVs.length t)
theorem RepVs.get : ∀ {xs : List PV} {vs : List V} {i : Nat} {x : PV}, RepVs K mg N H xs vs → xs[i]? = some x → ∃ v, vs[i]? = some v ∧ RepV K mg N H x v
  | _, _, _, _, .nil, e => by simp at e
  | _, _, 0, _, .cons r _, e => by simp at e; subst e; exact ⟨_, rfl, r⟩
  | _, _, i + 1, x, .cons _ t, e => by
    obtain ⟨v, h1, h2⟩ := RepVs.get (i := i) (x := x) t (by simpa using e)
    exact ⟨v, by simpa using h1, h2⟩
theorem RepVs.get' : ∀ {xs : List PV} {vs : List V} {i : Nat} {v : V}, RepVs K mg N H xs vs → vs[i]? = some v → ∃ x, xs[i]? = some x ∧ RepV K mg N H x v
  | _, _, _, _, .nil, e => by simp at e
  | _, _, 0, _, .cons r _, e => by simp at e; subst e; exact ⟨_, rfl, r⟩
  | _, _, i + 1, x, .cons _ t, e => by
    obtain ⟨v, h1, h2⟩ := RepVs.get' (i := i) (v := x) t (by simpa using e)
    exact ⟨v, by simpa using h1, h2⟩
theorem RepVs.append : ∀ {xs ys : List PV} {vs ws : List V}, RepVs K mg N H xs vs → RepVs K mg N H ys ws → RepVs K mg N H (xs ++ ys) (vs ++ ws)
  | _, _, _, _, .nil, s => s
  | _, _, _, _, .cons r t, s => .cons r (RepVs.append t s)
theorem RepVs.take : ∀ {xs : List PV} {vs : List V} (n : Nat), RepVs K mg N H xs vs → RepVs K mg N H (xs.take n) (vs.take n)
  | _, _, 0, _ => by simpa using .nil
  | _, _, _ + 1, .nil => .nil
  | _, _, n + 1, .cons r t => .cons r (RepVs.take n t)
theorem RepVs.drop : ∀ {xs : List PV} {vs : List V} (n : Nat), RepVs K mg N H xs vs → RepVs K mg N H (xs.drop n) (vs.drop n)
  | _, _, 0, r => r
  | _, _, _ + 1, .nil => .nil
  | _, _, n + 1, .cons _ t => RepVs.drop n t
theorem RepVs.set {x : PV} {v : V} (r : RepV K mg N H x v) : ∀ {xs : List PV} {vs : List V} (i : Nat), RepVs K mg N H xs vs → RepVs K mg N H (xs.set i x) (vs.set i v)
  | _, _, _, .nil => .nil
  | _, _, 0, .cons _ t => .cons r t
  | _, _, i + 1, .cons q t => .cons q (RepVs.set r i t)
theorem RepVs.reverse : ∀ {xs : List PV} {vs : List V}, RepVs K mg N H xs vs → RepVs K mg N H xs.reverse vs.reverse
  | _, _, .nil => .nil
  | _, _, .cons r t => by
    rw [List.reverse_cons, List.reverse_cons]
    exact (RepVs.reverse t).append (.cons r .nil)
theorem RepVs.rep {xs : List PV} {vs : List V} (h : RepVs K mg N H xs vs) : ∀ k : Nat, RepVs K mg N H (List.replicate k xs).flatten (List.replicate k vs).flatten
  | 0 => .nil
  | k + 1 => by
    rw [List.replicate_succ, List.replicate_succ, List.flatten_cons, List.flatten_cons]
    exact h.append (RepVs.rep h k)
theorem RepVs.of_get : ∀ {xs : List PV} {vs : List V}, xs.length = vs.length → (∀ (i : Nat) x v, xs[i]? = some x → vs[i]? = some v → RepV K mg N H x v) → RepVs K mg N H xs vs
  | [], [], _, _ => .nil
  | x :: xs, v :: vs, hl, h => .cons (h 0 x v rfl rfl) (RepVs.of_get (Nat.succ.inj hl) fun i x v a b => h (i + 1) x v (by simpa using a) (by simpa using b))
theorem RepVs.ints : ∀ {xs : List PV} {vs : List V} {ns : List Int}, RepVs K mg N H xs vs → allInts xs = some ns → vs = ns.map V.int
  | _, _, _, .nil, e => by simp at e; subst e; rfl
  | x :: xs, v :: vs, ns, .cons r t, e => by
    cases r with
    | int i =>
      simp only [allInts, Option.map_eq_some_iff] at e
      obtain ⟨ms, e1, rfl⟩ := e
      rw [RepVs.ints t e1]; rfl
    | obj _ _ sh _ => cases sh <;> simp [allInts] at e
    | _ => simp [allInts] at e
theorem RepVs.bls : ∀ {xs : List PV} {vs : List V} {ns : List Bool}, RepVs K mg N H xs vs → allBls xs = some ns → vs = ns.map V.bl
  | _, _, _, .nil, e => by simp at e; subst e; rfl
  | x :: xs, v :: vs, ns, .cons r t, e => by
    cases r with
    | bl i =>
      simp only [allBls, Option.map_eq_some_iff] at e
      obtain ⟨ms, e1, rfl⟩ := e
      rw [RepVs.bls t e1]; rfl
    | obj _ _ sh _ => cases sh <;> simp [allBls] at e
    | _ => simp [allBls] at e

/-- all stands as it was -/
theorem RepV.same (s : Same H H') {p : PV} {v : V} (h : RepV K mg N H p v) : RepV K mg N H' p v := h.mono (fun _ _ t => Same.sqT s t) (fun _ _ t _ n => ⟨s _ _ t, n⟩) fun _ _ t => Scr.same s t
theorem RepVs.same (s : Same H H') {p : List PV} {v : List V} (h : RepVs K mg N H p v) : RepVs K mg N H' p v := h.mono (fun _ _ t => Same.sqT s t) (fun _ _ t _ n => ⟨s _ _ t, n⟩) fun _ _ t => Scr.same s t
theorem RepO.same (s : Same H H') {p : PV} {a : Addr} (h : RepO K mg N H p a) : RepO K mg N H' p a := by
  cases h with
  | mk h sh hs => exact .mk (s _ _ h) sh (hs.same s)
/-- a new address is nobody's -/
theorem RepV.fresh {a : Addr} (ha : H a = none) {p : PV} {v : V} (h : RepV K mg N H p v) : RepV K mg (FF N a) H p v := h.mono (fun _ _ t => t) (fun b _ t _ n => ⟨t, fun q => q.elim n fun e => by
  subst e; rw [ha] at t; cases t⟩) fun _ _ t => t
theorem RepVs.fresh {a : Addr} (ha : H a = none) {p : List PV} {v : List V} (h : RepVs K mg N H p v) : RepVs K mg (FF N a) H p v := h.mono (fun _ _ t => t) (fun b _ t _ n => ⟨t, fun q => q.elim n fun e => by
  subst e; rw [ha] at t; cases t⟩) fun _ _ t => t
theorem RepO.fresh {a : Addr} (ha : H a = none) {p : PV} {b : Addr} (h : RepO K mg N H p b) : RepO K mg (FF N a) H p b := by
  cases h with
  | mk h sh hs => exact .mk h sh (hs.fresh ha)
theorem RepV.weak (hN : ∀ a, N' a → N a) {p : PV} {v : V} (h : RepV K mg N H p v) : RepV K mg N' H p v := h.mono (fun _ _ t => t) (fun _ _ t _ n => ⟨t, fun q => n (hN _ q)⟩) fun _ _ t => t
theorem RepVs.weak (hN : ∀ a, N' a → N a) {p : List PV} {v : List V} (h : RepVs K mg N H p v) : RepVs K mg N' H p v := h.mono (fun _ _ t => t) (fun _ _ t _ n => ⟨t, fun q => n (hN _ q)⟩) fun _ _ t => t
theorem RepO.weak (hN : ∀ a, N' a → N a) {p : PV} {a : Addr} (h : RepO K mg N H p a) : RepO K mg N' H p a := by
  cases h with
  | mk h sh hs => exact .mk h sh (hs.weak hN)

theorem Own.mono (h : LeO ρ' ρ) {a : Addr} (q : Own ρ' σ a) : Own ρ σ a := by
  obtain ⟨i, o, h1, h2⟩ := q
  obtain ⟨o', h3⟩ := h i o h1
  exact ⟨i, o', h3, h2⟩
theorem LeO.refl (ρ : Env) : LeO ρ ρ := fun _ o h => ⟨o, h⟩
theorem LeO.trans {a b c : Env} (h : LeO a b) (g : LeO b c) : LeO a c := fun i o e => let ⟨o', e'⟩ := h i o e; g i o' e'
theorem Fr.refl (ρ : Env) (σ : St) (H : Hp) : Fr ρ σ H H := ⟨fun _ _ h _ _ => h, fun _ o h => ⟨o, h⟩⟩
theorem Fr.trans (a : Fr ρ σ H H1) (l : LeO ρ1 ρ) (b : Fr ρ1 σ H1 H2) : Fr ρ σ H H2 :=
  ⟨fun c o h n q => b.keep c o (a.keep c o h n q) n fun z => q (z.mono l), fun c o h => let ⟨o', h'⟩ := a.up c o h; b.up c o' h'⟩
theorem Fr.of_same (s : Same H H') : Fr ρ σ H H' := ⟨fun a o h _ _ => s a o h, fun a o h => ⟨o, s a o h⟩⟩
theorem Fr.none (f : Fr ρ σ H H') {a : Addr} (h : H' a = none) : H a = none := by
  cases q : H a with
  | none => rfl
  | some o =>
    obtain ⟨o', e⟩ := f.up a o q
    rw [h] at e; cases e
theorem RE.isMut (r : RE K mg F ρ σ H) {a : Addr} (q : Own ρ σ a) : ∃ o, H a = some o ∧ Mut o := by
  obtain ⟨i, o, h1, h2⟩ := q
  obtain ⟨b, h3, h4⟩ := r.own i o h1
  rw [h2] at h3; cases h3
  cases h4 with
  | mk h sh _ => exact ⟨_, h, sh.mut⟩
/-- what a step that keeps the frame leaves of tuples and of lists that nobody owns -/
theorem Fr.sqT (f : Fr ρ σ H H') (r : RE K mg F ρ σ H) {a : Addr} {vs : List V} (h : SqT K H a vs) : SqT K H' a vs := by
  rcases h with h | h
  · have nO : ¬ Own ρ σ a := fun q => by
      obtain ⟨o, e, m⟩ := r.isMut q
      rcases h with h | ⟨u, h⟩
      · rw [e] at h; exact m.2.1 vs (Option.some.inj h)
      · rw [e] at h; exact m.2.2 _ _ (Option.some.inj h)
    rcases h with h | ⟨o, h⟩
    · exact .inl (.inl (f.keep a _ h (by intro ps e; cases e) nO))
    · exact .inl (.inr ⟨o, f.keep a _ h (by intro ps e; cases e) nO⟩)
  · exact .inr h
theorem Fr.scr (f : Fr ρ σ H H') (r : RE K mg F ρ σ H) {a : Addr} {ns : List Int} (h : Scr K H a ns) : Scr K H' a ns := by
  rcases h with ⟨o, h⟩ | h
  · exact .inl ⟨o, f.keep a _ h (by intro ps e; cases e) fun q => by
      obtain ⟨u, e, m⟩ := r.isMut q
      rw [e] at h; exact m.2.2 _ _ (Option.some.inj h)⟩
  · exact .inr h
theorem RepV.fr (f : Fr ρ σ H H') (r : RE K mg F ρ σ H) (l : LeO ρ' ρ) {p : PV} {v : V} (h : RepV K mg (NN F' ρ σ) H p v) : RepV K mg (NN F' ρ' σ) H' p v :=
  h.mono (fun _ _ t => f.sqT r t) (fun a vs t m n => ⟨f.keep a _ t m.nt fun q => n (.inr q), fun q => n (q.elim .inl fun z => .inr (z.mono l))⟩) fun _ _ t => f.scr r t
theorem RepVs.fr (f : Fr ρ σ H H') (r : RE K mg F ρ σ H) (l : LeO ρ' ρ) {p : List PV} {v : List V} (h : RepVs K mg (NN F' ρ σ) H p v) : RepVs K mg (NN F' ρ' σ) H' p v :=
  h.mono (fun _ _ t => f.sqT r t) (fun a vs t m n => ⟨f.keep a _ t m.nt fun q => n (.inr q), fun q => n (q.elim .inl fun z => .inr (z.mono l))⟩) fun _ _ t => f.scr r t
theorem RepO.fr (f : Fr ρ σ H H') (r : RE K mg F ρ σ H) (l : LeO ρ' ρ) {p : PV} {a : Addr} (n : ¬ Own ρ σ a) (h : RepO K mg (NN F' ρ σ) H p a) : RepO K mg (NN F' ρ' σ) H' p a := by
  cases h with
  | mk h sh hs => exact .mk (f.keep a _ h sh.mut.nt n) sh (hs.fr f r l)
/-- fewer things to look out for -/
theorem RE.less (hF : ∀ a, F' a → F a) (r : RE K mg F ρ σ H) : RE K mg F' ρ σ H :=
  ⟨r.len, fun i v h => let ⟨x, h1, h2⟩ := r.pv i v h; ⟨x, h1, h2.weak fun a q => q.imp (hF a) id⟩, fun i o h => let ⟨x, h1, h2⟩ := r.own i o h; ⟨x, h1, h2.weak fun a q => q.imp (hF a) id⟩, r.dist, fun a q => r.apart a (hF a q), fun a q => r.there a (hF a q)⟩
theorem RE.same (s : Same H H') (r : RE K mg F ρ σ H) : RE K mg F ρ σ H' :=
  ⟨r.len, fun i v h => let ⟨x, h1, h2⟩ := r.pv i v h; ⟨x, h1, h2.same s⟩, fun i o h => let ⟨x, h1, h2⟩ := r.own i o h; ⟨x, h1, h2.same s⟩, r.dist, r.apart, fun a q => let ⟨o, e, n⟩ := r.there a q; ⟨o, s a o e, n⟩⟩
/-- a new object beside -/
theorem RE.beside {a : Addr} {o : HO} (s : Same H H') (r : RE K mg F ρ σ H) (ha : H a = none) (hn : H' a = some o) (hb : Mut o) : RE K mg (FF F a) ρ σ H' := by
  have r' := r.same s
  have no : ¬ Own ρ σ a := fun q => by
    obtain ⟨vs, e, _⟩ := r.isMut q
    rw [ha] at e; cases e
  refine ⟨r.len, fun i v h => ?_, fun i o h => ?_, r.dist, fun b q z => ?_, fun b q => ?_⟩
  · obtain ⟨x, h1, h2⟩ := r.pv i v h
    exact ⟨x, h1, ((h2.fresh ha).same s).weak fun b q => by rcases q with (q | q) | q; exact .inl (.inl q); exact .inr q; exact .inl (.inr q)⟩
  · obtain ⟨x, h1, h2⟩ := r.own i o h
    exact ⟨x, h1, ((h2.fresh ha).same s).weak fun b q => by rcases q with (q | q) | q; exact .inl (.inl q); exact .inr q; exact .inl (.inr q)⟩
  · rcases q with q | q
    · exact r.apart b q z
    · subst q; exact no z
  · rcases q with q | q
    · exact r'.there b q
    · subst q; exact ⟨o, hn, hb⟩
theorem RepO.there {p : PV} {a : Addr} (h : RepO K mg N H p a) : ∃ o, H a = some o ∧ Mut o := by
  cases h with
  | mk h sh _ => exact ⟨_, h, sh.mut⟩
theorem RX.re {x : XV} {v : V} (h : RX K mg F ρ σ H0 H x v) : RE K mg F ρ σ H := by
  cases x with
  | pv p => exact h.2
  | own o => obtain ⟨a, _, _, _, _, _, r⟩ := h; exact r.less fun b q => .inl q
/-- what to look out for beside a result -/
def FX (F : NA) : XV → V → NA
  | .own _, .ref a => FF F a
  | _, _ => F
theorem RX.re' {x : XV} {v : V} (h : RX K mg F ρ σ H0 H x v) : RE K mg (FX F x v) ρ σ H := by
  cases x with
  | pv p => cases v <;> exact h.2
  | own o => obtain ⟨a, rfl, _, _, _, _, r⟩ := h; exact r
theorem RX.new {x : XV} {v : V} (r : RE K mg F ρ σ H) (h : NewX K mg (NN F ρ σ) H H' x v) (h0 : ∀ a, H a = none → H0 a = none) : RX K mg F ρ σ H0 H' x v := by
  cases x with
  | pv p => exact ⟨h.2, r.same h.1⟩
  | own o =>
    obtain ⟨a, e, hn, s, q⟩ := h
    obtain ⟨ob, e1, e2⟩ := q.there
    have no : ¬ Own ρ σ a := fun q => by
      obtain ⟨vs, e, _⟩ := r.isMut q
      rw [hn] at e; cases e
    have nf : ¬ F a := fun q => by
      obtain ⟨ob, e, _⟩ := r.there a q
      rw [hn] at e; cases e
    exact ⟨a, e, h0 a hn, nf, no, q.weak fun b z => by rcases z with (z | z) | z; exact .inl (.inl z); exact .inr z; exact .inl (.inr z), r.beside s hn e1 e2⟩
theorem NewX.same {x : XV} {v : V} (h : NewX K mg N H H' x v) : Same H H' := by
  cases x with
  | pv p => exact h.1
  | own o => obtain ⟨_, _, _, s, _⟩ := h; exact s
end
end Pi

/-! Pi, part 3: readings; operands, operators, comparisons, displays. -/
namespace Pi
open PySem PySem.Spec L2

/-- an exception as the heap has it -/
def RExc (K : PySem.W.Frag) (mg : MG) (c : Str) (fs : List (Str × PV)) (cls : Value) (d : Option Addr) (H : Hp) : Prop :=
  (∃ C, cls = .ref C ∧ mg c = some (.ref C)) ∧ ((fs = [] ∧ d = none) ∨ ∃ dd ws, fs ≠ [] ∧ d = some dd ∧ H dd = some (.xd ws) ∧ ws.map (·.1) = fs.map (·.1) ∧ RepVs K mg (fun _ => False) H (fs.map (·.2)) (ws.map (·.2)))
section
variable (K : PySem.W.Frag) (mg : MG)
def Go {α β : Type} (W : WX) (F : NA) (ρ : Env) (σ : St) (H : Hp) (R : α → Env → Hp → β → Prop) (o : Out α) (Q : β → Hp → Prop) : Prop := match o with
  | .ok x ρ' => ∀ H' v, Fr ρ σ H H' → LeO ρ' ρ → R x ρ' H' v → Q v H'
  | .exc c fs ρ' => ∀ H' cls d, Fr ρ σ H H' → LeO ρ' ρ → RE K mg F ρ' σ H' → RExc K mg c fs cls d H' → W cls d σ H'
  | .bad => False
def tE (W : WX) (d : E) : TE := fun σ H Q => ∃ F ρ, RE K mg F ρ σ H ∧ Go K mg W F ρ σ H (fun x ρ' H' v => RX K mg F ρ' σ H H' x v) (d ρ) Q
def RR (F : NA) (ρ : Env) (σ : St) (H0 H : Hp) : RV → V → Prop
  | .v x, v => RX K mg F ρ σ H0 H x v
  | .sl i, v => σ[i]? = some (some v) ∧ (∃ o, ρ[i]? = some (some (.own o))) ∧ RE K mg F ρ σ H
def tO (W : WX) (d : OP) : TE := fun σ H Q => ∃ F ρ, RE K mg F ρ σ H ∧ Go K mg W F ρ σ H (fun x ρ' H' v => RR K mg F ρ' σ H H' x v) (d ρ) Q
def tT (W : WX) (d : T) : TT := fun σ H Q => ∃ F ρ, RE K mg F ρ σ H ∧ Go K mg W F ρ σ H (fun c ρ' H' (b : Bool) => b = c ∧ RE K mg F ρ' σ H') (d ρ) Q
end
def FR (F : NA) : RV → V → NA
  | .v x, v => FX F x v
  | .sl _, _ => F
section
variable {X : Cx} {K : PySem.W.Frag} {mg : MG} {N N' F F' F1 : NA} {H H' H0 H1 H2 : Hp} {ρ ρ' ρ1 ρ2 : Env} {σ : St} {W : WX}

theorem PE.imp {e : Expr} {t t' : TE} (h : PE X e t) (i : ∀ σ H Q, t' σ H Q → t σ H Q) : PE X e t' := ⟨fun pins s σ H Q I q => h.run pins s σ H Q I (i σ H Q q)⟩
theorem PT.imp {e : Expr} {t t' : TT} (h : PT X e t) (i : ∀ σ H Q, t' σ H Q → t σ H Q) : PT X e t' := ⟨fun pins s σ H Q I q => h.run pins s σ H Q I (i σ H Q q)⟩
theorem PA.imp {e : List Expr} {t t' : TA} (h : PA X e t) (i : ∀ σ H Q, t' σ H Q → t σ H Q) : PA X e t' := ⟨fun pos pins s σ H Q I q => h.run pos pins s σ H Q I (i σ H Q q)⟩
theorem PS.imp {e : Stmt} {t t' : TS} (h : PS X e t) (i : ∀ D σ H, t' D σ H → t D σ H) : PS X e t' := ⟨fun pins s σ H D I q => h.run pins s σ H D I (i D σ H q)⟩
theorem PSs.imp {e : List Stmt} {t t' : TS} (h : PSs X e t) (i : ∀ D σ H, t' D σ H → t D σ H) : PSs X e t' := ⟨fun pins s σ H D I q => h.run pins s σ H D I (i D σ H q)⟩
/-- lists and tuples are not too long -/
def Lens (K : PySem.W.Frag) (H : Hp) : Prop := ∀ a vs, (Rd H a (.lst vs) → vs.length ≤ sizeLine) ∧ (SqT K H a vs → vs.length ≤ sizeLine)
theorem lens_of {pins : List (Addr × Obj)} {s : Shared} (I : Inv X pins σ H s) : Lens X.K H := fun a vs => ⟨fun h => (I.list (.inl h)).elim fun _ z => z.2.2, fun h => (I.tuple h).elim fun _ z => z.2.2⟩
theorem PE.len {e : Expr} {t t' : TE} (h : PE X e t) (i : ∀ σ H Q, Lens X.K H → t' σ H Q → t σ H Q) : PE X e t' := ⟨fun pins s σ H Q I q => h.run pins s σ H Q I (i σ H Q (lens_of I) q)⟩

theorem Go.bd {α β γ δ : Type} {R2 : γ → Env → Hp → δ → Prop} {R1 : α → Env → Hp → β → Prop} {o : Out α} {f : α → Env → Out γ} {Q : δ → Hp → Prop} {Q1 : β → Hp → Prop} (h : Go K mg W F ρ σ H R2 (o.bd f) Q)
    (k : ∀ x ρ1 H1 v, Fr ρ σ H H1 → LeO ρ1 ρ → R1 x ρ1 H1 v → Go K mg W F ρ σ H R2 (f x ρ1) Q → Q1 v H1) : Go K mg W F ρ σ H R1 o Q1 := by
  cases o with
  | ok x ρ1 => exact fun H1 v f1 l1 r1 => k x ρ1 H1 v f1 l1 r1 h
  | exc c fs ρ1 => exact h
  | bad => exact h
theorem Go.bd2 {α β γ δ : Type} {R2 : γ → Env → Hp → δ → Prop} {R1 : α → Env → Hp → β → Prop} {o : Out α} {f : α → Env → Out γ} {Q : δ → Hp → Prop} {Q1 : β → Hp → Prop} (h : Go K mg W F ρ σ H R2 (o.bd f) Q) (f1 : Fr ρ σ H H1) (l1 : LeO ρ1 ρ) (hF : ∀ a, F a → F1 a)
    (k : ∀ x ρ2 H2 v, Fr ρ1 σ H1 H2 → LeO ρ2 ρ1 → R1 x ρ2 H2 v → Go K mg W F ρ σ H R2 (f x ρ2) Q → Q1 v H2) : Go K mg W F1 ρ1 σ H1 R1 o Q1 := by
  cases o with
  | ok x ρ2 => exact fun H2 v f2 l2 r2 => k x ρ2 H2 v f2 l2 r2 h
  | exc c fs ρ2 => exact fun H' cls d f2 l2 r2 e => h H' cls d (f1.trans l1 f2) (l2.trans l1) (r2.less hF) e
  | bad => exact h
theorem Go.shift {α β : Type} {R R1 : α → Env → Hp → β → Prop} {o : Out α} {Q : β → Hp → Prop} (h : Go K mg W F ρ σ H R o Q) (f : Fr ρ σ H H1) (l : LeO ρ1 ρ) (hR : ∀ x ρ' H' v, R1 x ρ' H' v → R x ρ' H' v) (hF : ∀ a, F a → F1 a) :
    Go K mg W F1 ρ1 σ H1 R1 o Q := by
  cases o with
  | ok x ρ2 => exact fun H' v f2 l2 r2 => h H' v (f.trans l f2) (l2.trans l) (hR _ _ _ _ r2)
  | exc c fs ρ2 => exact fun H' cls d f2 l2 r2 e => h H' cls d (f.trans l f2) (l2.trans l) (r2.less hF) e
  | bad => exact h
theorem FX.sub {x : XV} {v : V} : ∀ a, F a → FX F x v a := fun a h => by
  unfold FX
  split
  · exact .inl h
  · exact h
theorem FR.sub {x : RV} {v : V} : ∀ a, F a → FR F x v a := fun a h => by
  cases x with
  | v x => exact FX.sub a h
  | sl i => exact h
theorem RR.re {r : RV} {v : V} (h : RR K mg F ρ σ H0 H r v) : RE K mg F ρ σ H := by
  cases r with
  | v x => exact RX.re h
  | sl i => exact h.2.2
theorem RR.re' {r : RV} {v : V} (h : RR K mg F ρ σ H0 H r v) : RE K mg (FR F r v) ρ σ H := by
  cases r with
  | v x => exact RX.re' h
  | sl i => exact h.2.2
/-- an operand's content when it is used -/
theorem RR.content {r : RV} {x : V} {p : PV} (h : RR K mg F ρ1 σ H0 H1 r x) (f : Fr ρ1 σ H1 H2) (l : LeO ρ2 ρ1) (hre : RE K mg F' ρ2 σ H2) (hF : ∀ a, F a → F' a) (e : dr ρ2 r = some p) : RepC K mg (NN F ρ2 σ) H2 p x := by
  cases r with
  | v z =>
    simp only [dr, Option.some.injEq] at e
    subst e
    cases z with
    | pv q => exact .val (h.1.fr f h.2 l)
    | own o =>
      obtain ⟨a, rfl, _, _, n, q, r⟩ := h
      exact .own ((q.fr f r l n).weak fun b z => z.imp .inl id)
  | sl i =>
    obtain ⟨h1, h2, h3⟩ := h
    have w : ∀ a, NN F ρ2 σ a → NN F' ρ2 σ a := fun a z => z.imp (hF a) id
    simp only [dr] at e
    cases q : ρ2[i]? with
    | none => rw [q] at e; cases e
    | some y =>
      rw [q] at e
      cases y with
      | none => cases e
      | some y =>
        simp only [Option.some.injEq] at e
        subst e
        cases y with
        | pv v =>
          obtain ⟨x', e1, e2⟩ := hre.pv i v q
          rw [h1] at e1; cases e1
          exact .val (e2.weak w)
        | own o =>
          obtain ⟨a, e1, e2⟩ := hre.own i o q
          rw [h1] at e1; cases e1
          exact .own (e2.weak w)
/-- an operand that is used at once -/
theorem RR.now {r : RV} {x : V} {p : PV} (h : RR K mg F ρ σ H0 H r x) (e : dr ρ r = some p) : RepC K mg (NN F ρ σ) H p x := h.content (Fr.refl _ _ _) (LeO.refl _) h.re (fun _ z => z) e

/-! ### operands -/
theorem tO_of_tE {e : E} {Q : VK} (h : tO K mg W (oE e) σ H Q) : tE K mg W e σ H Q := by
  obtain ⟨F, ρ, r, g⟩ := h
  exact ⟨F, ρ, r, Go.bd (R1 := fun x ρ' H' v => RX K mg F ρ' σ H H' x v) (o := e ρ) (f := fun x ρ1 => Out.ok (RV.v x) ρ1) g fun x ρ1 H1 v f l rx go => go H1 v f l rx⟩
theorem pe_oE {e : Expr} {d : E} (h : PE X e (tE X.K X.mm W d)) : PE X e (tO X.K X.mm W (oE d)) := PE.imp h fun _ _ _ q => tO_of_tE q
theorem pe_bad {e : Expr} : PE X e (tE X.K X.mm W eBad) := ⟨fun _ _ _ _ _ _ h => by obtain ⟨_, _, _, z⟩ := h; exact z.elim⟩
theorem pt_bad {e : Expr} : PT X e (tT X.K X.mm W fun _ => .bad) := ⟨fun _ _ _ _ _ _ h => by obtain ⟨_, _, _, z⟩ := h; exact z.elim⟩
/-- a name of the def, as an operand -/
theorem pe_oVar {i : Nat} {x : Str} {pos : Pos} (hN : X.N[i]? = some x) (hv : Vis X.env.scope x) (hd : (x == ("__debug__" : Str)) = false) (hcd : (x == ("__classdict__" : Str)) = false) : PE X (.Name x pos) (tO X.K X.mm W (oVar i)) := by
  refine PE.imp (pe_var hN hv hd hcd) fun σ H Q h => ?_
  obtain ⟨F, ρ, r, g⟩ := h
  simp only [oVar] at g
  split at g
  · rename_i v q
    obtain ⟨x, h1, h2⟩ := r.pv i v q
    exact ⟨x, h1, g H x (Fr.refl _ _ _) (LeO.refl _) ⟨h2, r⟩⟩
  · rename_i o q
    obtain ⟨a, h1, h2⟩ := r.own i o q
    exact ⟨.ref a, h1, g H _ (Fr.refl _ _ _) (LeO.refl _) ⟨h1, ⟨o, q⟩, r⟩⟩
  · exact g.elim
theorem set_own {ρ : Env} {i j : Nat} {v o : PV} (h : (ρ.set i (some (.pv v)))[j]? = some (some (.own o))) : j ≠ i ∧ ρ[j]? = some (some (.own o)) := by
  by_cases e : j = i
  · subst e
    by_cases hl : j < ρ.length
    · rw [List.getElem?_set_self hl] at h; cases h
    · rw [List.getElem?_eq_none (by simpa using hl)] at h; cases h
  · rw [List.getElem?_set_ne (Ne.symm e)] at h
    exact ⟨e, h⟩
/-- the slot i lets its object go: from now on nobody changes it -/
theorem RE.freeze {i : Nat} {o : PV} {a : Addr} (r : RE K mg F ρ σ H) (hi : ρ[i]? = some (some (.own o))) (ha : σ[i]? = some (some (.ref a))) :
    RE K mg F (ρ.set i (some (.pv o))) σ H ∧ RepV K mg (NN F (ρ.set i (some (.pv o))) σ) H o (.ref a) := by
  have hil : i < ρ.length := (List.getElem?_eq_some_iff.mp hi).1
  have le : LeO (ρ.set i (some (.pv o))) ρ := fun j q h => ⟨q, (set_own h).2⟩
  have out : ∀ b, Own (ρ.set i (some (.pv o))) σ b → b ≠ a := fun b ⟨j, q, h1, h2⟩ e => by
    subst e
    obtain ⟨n, h3⟩ := set_own h1
    exact n (r.dist j i b ⟨q, h3, h2⟩ ⟨o, hi, ha⟩)
  have w : ∀ b, NN F (ρ.set i (some (.pv o))) σ b → NN F ρ σ b := fun b z => z.imp id fun q => q.mono le
  have nF : ¬ F a := fun q => r.apart a q ⟨i, o, hi, ha⟩
  have new : RepV K mg (NN F (ρ.set i (some (.pv o))) σ) H o (.ref a) := by
    obtain ⟨b, h1, h2⟩ := r.own i o hi
    rw [ha] at h1; cases h1
    cases h2 with
    | mk h sh hs => exact .obj h (fun z => z.elim nF fun q => out _ q rfl) sh (hs.weak w)
  refine ⟨⟨by rw [List.length_set]; exact r.len, fun j v h => ?_, fun j q h => ?_, fun j k b h1 h2 => ?_, fun b q z => r.apart b q (z.mono le), r.there⟩, new⟩
  · by_cases e : j = i
    · subst e
      rw [List.getElem?_set_self hil] at h; cases h
      exact ⟨_, ha, new⟩
    · rw [List.getElem?_set_ne (Ne.symm e)] at h
      obtain ⟨x, h1, h2⟩ := r.pv j v h
      exact ⟨x, h1, h2.weak w⟩
  · obtain ⟨b, h1, h2⟩ := r.own j q (set_own h).2
    exact ⟨b, h1, h2.weak w⟩
  · obtain ⟨o1, e1, e2⟩ := h1
    obtain ⟨o2, e3, e4⟩ := h2
    exact r.dist j k b ⟨o1, (set_own e1).2, e2⟩ ⟨o2, (set_own e3).2, e4⟩
theorem pe_eVar {i : Nat} {x : Str} {pos : Pos} (hN : X.N[i]? = some x) (hv : Vis X.env.scope x) (hd : (x == ("__debug__" : Str)) = false) (hcd : (x == ("__classdict__" : Str)) = false) : PE X (.Name x pos) (tE X.K X.mm W (eVar i)) := by
  refine PE.imp (pe_var hN hv hd hcd) fun σ H Q h => ?_
  obtain ⟨F, ρ, r, g⟩ := h
  simp only [eVar] at g
  split at g
  · rename_i v q
    obtain ⟨x, h1, h2⟩ := r.pv i v q
    exact ⟨x, h1, g H x (Fr.refl _ _ _) (LeO.refl _) ⟨h2, r⟩⟩
  · rename_i o q
    obtain ⟨a, h1, h2⟩ := r.own i o q
    obtain ⟨z1, z2⟩ := r.freeze q h1
    exact ⟨.ref a, h1, g H _ (Fr.refl _ _ _) (fun j q h => ⟨q, (set_own h).2⟩) ⟨z2, z1⟩⟩
  · exact g.elim
theorem pe_eC {e : Expr} {t : TE} {p : PV} {v : V} (h : PE X e (tC v)) (r : ∀ N H, RepV X.K X.mm N H p v) : PE X e (tE X.K X.mm W (eC p)) := by
  refine PE.imp h fun σ H Q h => ?_
  obtain ⟨F, ρ, re, g⟩ := h
  exact g H v (Fr.refl _ _ _) (LeO.refl _) ⟨r _ _, re⟩

/-! ### operators by values -/
def Un1 (K : PySem.W.Frag) (mg : MG) (f : PV → Option XV) (r : V → Hp → VK → Prop) : Prop :=
  ∀ N H p x z Q, RepC K mg N H p x → f p = some z → (∀ H' v, NewX K mg N H H' z v → Q v H') → r x H Q
def Bin2 (K : PySem.W.Frag) (mg : MG) (f : PV → PV → Option XV) (r : R2) : Prop :=
  ∀ N H p q x y z Q, RepC K mg N H p x → RepC K mg N H q y → f p q = some z → (∀ H' v, NewX K mg N H H' z v → Q v H') → r x y H Q
theorem res_go {α β : Type} {R : α → Env → Hp → β → Prop} {o : Option α} {Q : β → Hp → Prop} (h : Go K mg W F ρ σ H R (res o ρ1) Q) : ∃ x, o = some x ∧ ∀ H' v, Fr ρ σ H H' → LeO ρ1 ρ → R x ρ1 H' v → Q v H' := by
  cases o with
  | none => exact h.elim
  | some x => exact ⟨x, rfl, h⟩
theorem RX.less {x : XV} {v : V} (h : RX K mg F' ρ σ H0 H x v) (hF : ∀ a, F a → F' a) (h0 : ∀ a, H0 a = none → H1 a = none) : RX K mg F ρ σ H1 H x v := by
  cases x with
  | pv p => exact ⟨h.1.weak fun a z => z.imp (hF a) id, h.2.less hF⟩
  | own o =>
    obtain ⟨a, e, h1, h2, h3, h4, h5⟩ := h
    exact ⟨a, e, h0 a h1, fun z => h2 (hF a z), h3, h4.weak fun b z => z.imp (fun q => q.imp (hF b) id) id, h5.less fun b q => q.imp (hF b) id⟩
theorem RR.less {x : RV} {v : V} (h : RR K mg F' ρ σ H0 H x v) (hF : ∀ a, F a → F' a) (h0 : ∀ a, H0 a = none → H1 a = none) : RR K mg F ρ σ H1 H x v := by
  cases x with
  | v x => exact RX.less h hF h0
  | sl i => exact ⟨h.1, h.2.1, h.2.2.less hF⟩
theorem Go.shX {o : Out XV} {Q : VK} (h : Go K mg W F ρ σ H (fun x ρ' H' v => RX K mg F ρ' σ H H' x v) o Q) (f : Fr ρ σ H H1) (l : LeO ρ1 ρ) (hF : ∀ a, F a → F1 a) : Go K mg W F1 ρ1 σ H1 (fun x ρ' H' v => RX K mg F1 ρ' σ H1 H' x v) o Q :=
  Go.shift h f l (fun _ _ _ _ q => RX.less q hF fun _ q => f.none q) hF
theorem Go.shO {o : Out RV} {Q : VK} (h : Go K mg W F ρ σ H (fun x ρ' H' v => RR K mg F ρ' σ H H' x v) o Q) (f : Fr ρ σ H H1) (l : LeO ρ1 ρ) (hF : ∀ a, F a → F1 a) : Go K mg W F1 ρ1 σ H1 (fun x ρ' H' v => RR K mg F1 ρ' σ H1 H' x v) o Q :=
  Go.shift h f l (fun _ _ _ _ q => RR.less q hF fun _ q => f.none q) hF
theorem Go.shT {o : Out Bool} {Q : Bool → Hp → Prop} (h : Go K mg W F ρ σ H (fun c ρ' H' (b : Bool) => b = c ∧ RE K mg F ρ' σ H') o Q) (f : Fr ρ σ H H1) (l : LeO ρ1 ρ) (hF : ∀ a, F a → F1 a) : Go K mg W F1 ρ1 σ H1 (fun c ρ' H' (b : Bool) => b = c ∧ RE K mg F1 ρ' σ H') o Q :=
  Go.shift h f l (fun _ _ _ _ q => ⟨q.1, q.2.less hF⟩) hF
theorem RepC.weak (hN : ∀ a, N' a → N a) {p : PV} {v : V} (h : RepC K mg N H p v) : RepC K mg N' H p v := by
  cases h with
  | val h => exact .val (h.weak hN)
  | own h => exact .own (h.weak hN)
theorem un_reads {f : PV → Option XV} {r : V → Hp → VK → Prop} {da : OP} {Q : VK} (hf : Un1 K mg f r) (h : tE K mg W (eUn f da) σ H Q) : tUn r (tO K mg W da) σ H Q := by
  obtain ⟨F, ρ, re, g⟩ := h
  refine ⟨F, ρ, re, Go.bd g fun ra ρ1 H1 x f1 l1 r1 g1 => ?_⟩
  obtain ⟨z, e, g1⟩ := res_go g1
  obtain ⟨p, e1, e2⟩ := Option.bind_eq_some_iff.mp e
  exact hf _ H1 p x z Q (r1.now e1) e2 fun H' v n => g1 H' v (f1.trans l1 (Fr.of_same n.same)) l1 (RX.new r1.re n fun a q => f1.none q)
theorem bin_reads {f : PV → PV → Option XV} {r : R2} {da db : OP} {Q : VK} (hf : Bin2 K mg f r) (h : tE K mg W (eBin f da db) σ H Q) : tOp r (tO K mg W da) (tO K mg W db) σ H Q := by
  obtain ⟨F, ρ, re, g⟩ := h
  refine ⟨F, ρ, re, Go.bd g fun ra ρ1 H1 x f1 l1 r1 g1 => ?_⟩
  refine ⟨FR F ra x, ρ1, r1.re', Go.bd2 g1 f1 l1 FR.sub fun rb ρ2 H2 y f2 l2 r2 g2 => ?_⟩
  obtain ⟨z, e, g2⟩ := res_go g2
  obtain ⟨p, e1, e⟩ := Option.bind_eq_some_iff.mp e
  obtain ⟨q, e2, e3⟩ := Option.bind_eq_some_iff.mp e
  have c2 := RR.now r2 e2
  have f12 := f1.trans l1 f2
  exact hf (NN F ρ2 σ) H2 p q x y z Q (r1.content f2 l2 r2.re FR.sub e1) (c2.weak fun a z => z.imp (FR.sub a) id) e3 fun H' v n =>
    g2 H' v (f12.trans (l2.trans l1) (Fr.of_same n.same)) (l2.trans l1) (RX.new (r2.re.less FR.sub) n fun a q => f12.none q)
end
end Pi

/-! Pi, part 4: each operation against its rule. -/
namespace Pi
open PySem PySem.Spec L2
section
variable {X : Cx} {K : PySem.W.Frag} {mg : MG} {N N' F F' F1 : NA} {H H' H0 H1 H2 : Hp} {ρ ρ' ρ1 ρ2 : Env} {σ : St} {W : WX}

theorem RepC.int_ {i : Int} {x : V} (h : RepC K mg N H (.int i) x) : x = .int i := by
  cases h with
  | val h => cases h with
    | obj _ _ sh _ => cases sh
    | _ => rfl
  | own h => cases h with
    | mk _ sh _ => cases sh
theorem RepC.bl_ {i : Bool} {x : V} (h : RepC K mg N H (.bl i) x) : x = .bl i := by
  cases h with
  | val h => cases h with
    | obj _ _ sh _ => cases sh
    | _ => rfl
  | own h => cases h with
    | mk _ sh _ => cases sh
theorem RepC.str_ {i : Str} {x : V} (h : RepC K mg N H (.str i) x) : x = .str i := by
  cases h with
  | val h => cases h with
    | obj _ _ sh _ => cases sh
    | _ => rfl
  | own h => cases h with
    | mk _ sh _ => cases sh
theorem RepC.non_ {x : V} (h : RepC K mg N H .non x) : x = .non := by
  cases h with
  | val h => cases h with
    | obj _ _ sh _ => cases sh
    | _ => rfl
  | own h => cases h with
    | mk _ sh _ => cases sh
theorem RepC.lst_ {xs : List PV} {x : V} (h : RepC K mg N H (.lst xs) x) : ∃ a vs, x = .ref a ∧ H a = some (.lst vs) ∧ RepVs K mg N H xs vs := by
  cases h with
  | val h => cases h with
    | obj h n sh hs => cases sh with
      | lst => exact ⟨_, _, rfl, h, hs⟩
  | own h => cases h with
    | mk h sh hs => cases sh with
      | lst => exact ⟨_, _, rfl, h, hs⟩
theorem RepC.tup_ {xs : List PV} {x : V} (h : RepC K mg N H (.tup xs) x) : ∃ a vs, x = .ref a ∧ SqT K H a vs ∧ RepVs K mg N H xs vs := by
  cases h with
  | val h => cases h with
    | tup h hs => exact ⟨_, _, rfl, h, hs⟩
    | obj _ _ sh _ => cases sh
  | own h => cases h with
    | mk _ sh _ => cases sh
theorem RepC.scr_ {xs : List Int} {x : V} (h : RepC K mg N H (.scr xs) x) : ∃ a, x = .ref a ∧ SqL K H a (xs.map V.int) := by
  cases h with
  | val h => cases h with
    | scr h => exact ⟨_, rfl, h.sqL⟩
    | obj _ _ sh _ => cases sh
  | own h => cases h with
    | mk _ sh _ => cases sh
theorem same_upd {p : Addr} {o : HO} (h : H p = none) : Same H (upd H p o) := fun b u e => by rw [upd_ne (ne_of_none e h)]; exact e
theorem Same.rfl' : Same H H := fun _ _ h => h
theorem newL {p : Addr} {xs : List PV} {vs : List V} (h : H p = none) (r : RepVs K mg N H xs vs) : NewX K mg N H (upd H p (.lst vs)) (.own (.lst xs)) (.ref p) := ⟨p, rfl, h, same_upd h, .mk upd_same .lst ((r.fresh h).same (same_upd h))⟩
theorem newT {p : Addr} {xs : List PV} {vs : List V} (h : H p = none) (r : RepVs K mg N H xs vs) : NewX K mg N H (upd H p (.tup vs)) (.pv (.tup xs)) (.ref p) := ⟨same_upd h, .tup (SqT.of upd_same) (r.same (same_upd h))⟩
theorem newP {p : PV} {v : V} (r : RepV K mg N H p v) : NewX K mg N H H (.pv p) v := ⟨fun _ _ h => h, r⟩

theorem szl : (szL : Nat) = sizeLine := rfl
/-! ### + -/
def rAddA (K : PySem.W.Frag) : R2 := fun x y H Q => (∃ i j, x = .int i ∧ y = .int j ∧ Q (.int (i + j)) H) ∨ (∃ i j, x = .str i ∧ y = .str j ∧ i.length + j.length ≤ sizeLine ∧ Q (.str (i ++ j)) H) ∨ rCat x y H Q ∨ rCatA K x y H Q
theorem op_addA : OpR X (binaryOp .Add) (rAddA X.K) := op_add.or (op_add_str.or (op_cat.or op_catA))
theorem bin_add : Bin2 K mg addV (rAddA K) := by
  intro N H p q x y z Q rp rq e k
  unfold addV at e
  split at e
  · cases e
    obtain rfl := rp.int_; obtain rfl := rq.int_
    exact .inl ⟨_, _, rfl, rfl, k _ _ (newP (.int _))⟩
  · split at e <;> cases e
    rename_i hz
    obtain rfl := rp.str_; obtain rfl := rq.str_
    exact .inr (.inl ⟨_, _, rfl, rfl, hz, k _ _ (newP (.str _))⟩)
  · split at e <;> cases e
    rename_i hz
    obtain ⟨a, vs, rfl, ha, hs⟩ := rp.lst_
    obtain ⟨b, ws, rfl, hb, ht⟩ := rq.lst_
    exact .inr (.inr (.inl ⟨_, _, _, _, rfl, rfl, ha, hb, by rw [← hs.length, ← ht.length]; exact hz, fun p hp => k _ _ (newL hp (hs.append ht))⟩))
  · split at e <;> cases e
    rename_i hz
    obtain ⟨a, vs, rfl, ha, hs⟩ := rp.tup_
    obtain ⟨b, ws, rfl, hb, ht⟩ := rq.tup_
    refine .inr (.inr (.inr ⟨_, _, _, _, rfl, rfl, ha, hb, by rw [← hs.length, ← ht.length]; exact hz, fun e => k _ _ (newP ?_), fun _ e => k _ _ (newP ?_), fun _ _ p hp => k _ _ (newT hp (hs.append ht))⟩))
    · subst e; cases hs; exact .tup hb ht
    · subst e; cases ht; rw [List.append_nil]; exact .tup ha hs
  · cases e
theorem bin_sub : Bin2 K mg subV (rI0 fun i j => .int (i - j)) := by
  intro N H p q x y z Q rp rq e k
  unfold subV at e
  split at e
  · cases e
    obtain rfl := rp.int_; obtain rfl := rq.int_
    exact ⟨_, _, rfl, rfl, k _ _ (newP (.int _))⟩
  · cases e
/-! ### * -/
def rMulI : R2 := fun x y H Q => rI CMul (fun i j => .int (i * j)) x y H Q ∨ rI CMulW (fun i j => .int (i * j)) x y H Q
theorem op_mulI : OpR X (binaryOp .Mult) rMulI := op_mul.or op_mulW
theorem noFillT : fillsNumberSlot (.type "tuple") "mul" = pure false := noFill_tuple_mul
/-- a tuple, once or none: the same object -/
theorem tup_times_same (l : Addr) (its : Array Value) (n : Nat) (dd : Option Addr) (sl : Array (Option Value)) (k : Int) (u : Tok) (hk : (decide (k < -(2 ^ 63)) || decide (k ≥ 2 ^ 63)) = false) (h1 : (its.isEmpty || k == 1) = true) :
    Meets (Builtin.«tuple.__mul__» ⟨[.ref l, .int k u], []⟩) (fun _ R s => s.heap.get? l = some { cls := .type "tuple", dict := dd, data := .seq its n, slots := sl } ∧ R (.ok (.ret (Value.ref l))) s) :=
  .of_wp fun prog w A R s h => by
    obtain ⟨hp, g, d, tk, os⟩ := s
    obtain ⟨hl, h⟩ := h
    have f1 := AutoSeq1.idx_int
    wp_walk using wpAny_loadPart' hl
    refine wpAny_ite_false (decide_eq_false (by rw [hk]; decide)) ?_
    wp_walk using wpAny_loadPart' hl
    exact ⟨_, rfl, h⟩
/-- a tuple, fewer than no times -/
theorem tup_times_none (l : Addr) (its : Array Value) (n : Nat) (dd : Option Addr) (sl : Array (Option Value)) (k : Int) (u : Tok) (hk : (decide (k < -(2 ^ 63)) || decide (k ≥ 2 ^ 63)) = false) (h1 : (its.isEmpty || k == 1) = false) (h2 : (decide (k ≤ 0) || its.isEmpty) = true) :
    Meets (Builtin.«tuple.__mul__» ⟨[.ref l, .int k u], []⟩) (fun _ R s => s.heap.get? l = some { cls := .type "tuple", dict := dd, data := .seq its n, slots := sl } ∧
      R (.ok (.ret (Value.ref s.heap.objs.size))) { s with heap := s.heap.push { cls := Value.type "tuple", data := Data.seq #[] } }) :=
  .of_wp fun prog w A R s h => by
    obtain ⟨hp, g, d, tk, os⟩ := s
    obtain ⟨hl, h⟩ := h
    have f1 := AutoSeq1.idx_int
    wp_walk using wpAny_loadPart' hl
    refine wpAny_ite_false (decide_eq_false (by rw [hk]; decide)) ?_
    wp_walk using wpAny_loadPart' hl
    exact ⟨_, rfl, h⟩
def rRepA (K : PySem.W.Frag) : R2 := fun x y H Q => ∃ l k xs, x = .ref l ∧ y = .int k ∧ SqT K H l xs ∧ -1000000 ≤ k ∧ k ≤ 1000 ∧ xs.length ≤ 1000 ∧
  ((xs = [] ∨ k = 1) → Q (.ref l) H) ∧ (xs ≠ [] → k ≤ 0 → ∀ p, H p = none → Q (.ref p) (upd H p (.tup []))) ∧ (xs ≠ [] → 2 ≤ k → ∀ p, H p = none → Q (.ref p) (upd H p (.tup (List.replicate k.toNat xs).flatten)))
theorem op_repA : OpR X (binaryOp .Mult) (rRepA X.K) := by
  intro pins s σ H x y v u Q I rx ry h
  obtain ⟨l, k, xs, rfl, rfl, hT, h1, h2, hz, q0, q1, q2⟩ := h
  by_cases hbig : xs ≠ [] ∧ 2 ≤ k
  · exact op_repT pins s σ H _ _ v u Q I rx ry ⟨l, k, xs, rfl, rfl, hT, hbig.1, hbig.2, h2, hz, q2 hbig.1 hbig.2⟩
  cases rx
  obtain ⟨t, rfl⟩ := ry
  obtain ⟨its, r, ⟨⟨cls, dd, data, sl⟩, ho, hc, n, hd⟩, hs⟩ := I.tuple hT
  simp only at hc hd
  subst hc
  subst hd
  have hle := r.length
  have c0 : (decide (k < -(2 ^ 63)) || decide (k ≥ 2 ^ 63)) = false := by
    rw [decide_eq_false (show ¬ k < -(2 ^ 63) by omega), decide_eq_false (show ¬ k ≥ 2 ^ 63 by omega)] <;> rfl
  have emp : its.toArray.isEmpty = xs.isEmpty := by
    cases its <;> cases xs <;> first | rfl | (simp at hle)
  have key : ∀ Q' : Value → Shared → Prop, wpAny (model X.prog X.w) X.A (call (.builtin "tuple.__mul__") [.ref l, .int k t]) Q' X.xe s → wpAny (model X.prog X.w) X.A (binaryOp .Mult (.ref l) (.int k t)) Q' X.xe s := fun Q' hq => by
    have tyT : s.TypeIs (.ref l) "tuple" := ⟨_, ho, rfl⟩
    have right := call_meets (prog := X.prog) (w := X.w) (A := X.A) (E := X.xe) (s := s) F.slot_int_rmul (typeIs_int s k t) F.entry_int_rmul (F.args_int_rmul_2 _ _)
      (Q := fun v s' => v = .notImplemented ∧ s'.TypeIs (.ref l) "tuple" ∧ wpAny (model X.prog X.w) X.A (call (.builtin "tuple.__mul__") [.ref l, .int k t]) Q' X.xe s')
      (int_rmul_tuple k t l its.toArray n dd sl) ⟨ho, rfl, tyT, hq⟩
    have tyI : ∀ s' : Shared, s'.TypeIs (.int k t) "int" := fun s' => typeIs_int s' k t
    exact wpAny_binaryOp_repeat_ref (by decide) tyT tyI noFill_tuple_mul F.fills_int_mul
      F.slot_int_rmul repeat_tuple F.slot_int_index.lookup right
  refine key _ ?_
  by_cases hsame : xs = [] ∨ k = 1
  · refine call_meets F.slot_tuple_mul ⟨_, ho, rfl⟩ F.entry_tuple_mul (F.args_tuple_mul_2 _ _) (tup_times_same l its.toArray n dd sl k t c0 ?_) ⟨ho, .ref l, H, I, rfl, q0 hsame⟩
    rw [emp]
    rcases hsame with e | e
    · subst e; rfl
    · subst e; simp
  · obtain ⟨hx, hk1⟩ := not_or.mp hsame
    have hk0 : k ≤ 0 := by
      have : ¬ 2 ≤ k := fun z => hbig ⟨hx, z⟩
      omega
    have hxe : xs.isEmpty = false := by cases xs with
      | nil => exact absurd rfl hx
      | cons _ _ => rfl
    refine call_meets F.slot_tuple_mul ⟨_, ho, rfl⟩ F.entry_tuple_mul (F.args_tuple_mul_2 _ _) (tup_times_none l its.toArray n dd sl k t c0 ?_ ?_) ⟨ho, ?_⟩
    · rw [emp, hxe]; simpa using hk1
    · rw [emp, hxe]; simpa using hk0
    · exact ⟨.ref s.heap.objs.size, _, I.laid (t' := s.toks) (o := .tup []) (fun b ob q => Heap.get?_push_of_some _ q) (Nat.le_refl _) ⟨Nat.zero_le _, [], .nil, PyProof.Rows.IsTup.new _ _⟩, rfl, q1 hx hk0 _ (I.hok.fresh (Nat.le_refl _))⟩
def rMulA (K : PySem.W.Frag) : R2 := fun x y H Q => rMulI x y H Q ∨ rRep x y H Q ∨ rRepA K x y H Q
theorem op_mulA : OpR X (binaryOp .Mult) (rMulA X.K) := op_mulI.or (op_rep.or op_repA)
theorem cmul_of {i j : Int} (h : mulOk i j = true) : CMul i j ∨ CMulW i j := by
  unfold mulOk at h
  simp only [Bool.or_eq_true, Bool.and_eq_true, decide_eq_true_eq] at h
  rcases h with (h | h) | h
  · exact .inl (.inl h)
  · exact .inl (.inr h)
  · exact .inr h
theorem bin_mul : Bin2 K mg mulV (rMulA K) := by
  intro N H p q x y z Q rp rq e k
  unfold mulV at e
  split at e
  · split at e <;> cases e
    rename_i hm
    obtain rfl := rp.int_; obtain rfl := rq.int_
    rcases cmul_of hm with c | c
    · exact .inl (.inl ⟨_, _, rfl, rfl, c, k _ _ (newP (.int _))⟩)
    · exact .inl (.inr ⟨_, _, rfl, rfl, c, k _ _ (newP (.int _))⟩)
  · split at e <;> cases e
    rename_i hz
    obtain ⟨h1, h2, h3⟩ := hz
    obtain ⟨a, vs, rfl, ha, hs⟩ := rp.lst_
    obtain rfl := rq.int_
    refine .inr (.inl ⟨_, _, _, rfl, rfl, ha, by omega, by omega, ?_, fun p hp => k _ _ (newL hp (hs.rep _))⟩)
    rw [← hs.length, sizeLine_eq]
    omega
  · split at e <;> cases e
    rename_i hz
    obtain ⟨h1, h2, h3⟩ := hz
    obtain ⟨a, vs, rfl, ha, hs⟩ := rp.tup_
    obtain rfl := rq.int_
    refine .inr (.inr ⟨_, _, _, rfl, rfl, ha, h1, h2, by rw [← hs.length]; exact h3, fun e => k _ _ (newP ?_), fun _ e p hp => ?_, fun _ _ p hp => k _ _ (newT hp (hs.rep _))⟩)
    · rcases e with e | e
      · subst e
        cases hs
        have : ∀ j : Int, rep j ([] : List PV) = [] := fun j => by unfold rep; simp
        rw [this] at k ⊢
        exact .tup ha .nil
      · subst e
        have : ∀ l : List PV, rep 1 l = l := fun l => by unfold rep; simp
        rw [this] at k ⊢
        exact .tup ha hs
    · unfold rep at k
      rw [Int.toNat_of_nonpos e] at k
      exact k _ _ (newT hp .nil)
  · cases e
/-! ### //, %, ** -/
def rFd : R2 := fun x y H Q => rI CDivN (fun i j => .int (i.fdiv j)) x y H Q ∨ rI CDivW (fun i j => .int (i / j)) x y H Q
theorem op_fdA : OpR X (binaryOp .FloorDiv) rFd := op_fdivN.or op_fdivW
theorem bin_fdiv : Bin2 K mg fdivV rFd := by
  intro N H p q x y z Q rp rq e k
  unfold fdivV at e
  split at e
  · split at e <;> cases e
    rename_i hm
    obtain rfl := rp.int_; obtain rfl := rq.int_
    unfold divOk at hm
    simp only [Bool.or_eq_true, Bool.and_eq_true, decide_eq_true_eq] at hm
    rcases hm with c | c
    · exact .inl ⟨_, _, rfl, rfl, c, k _ _ (newP (.int _))⟩
    · refine .inr ⟨_, _, rfl, rfl, c, ?_⟩
      have := k H _ (newP (.int _))
      rwa [Int.fdiv_eq_ediv_of_nonneg _ (Int.le_of_lt c.1)] at this
  · cases e
theorem bin_mod : Bin2 K mg modV (rI (fun _ j => j ≠ 0) fun i j => .int (i.fmod j)) := by
  intro N H p q x y z Q rp rq e k
  unfold modV at e
  split at e
  · split at e <;> cases e
    rename_i hm
    obtain rfl := rp.int_; obtain rfl := rq.int_
    exact ⟨_, _, rfl, rfl, hm, k _ _ (newP (.int _))⟩
  · cases e
theorem bin_pow : Bin2 K mg powV (rI CPow fun i j => .int (i ^ j.toNat)) := by
  intro N H p q x y z Q rp rq e k
  unfold powV at e
  split at e
  · split at e <;> cases e
    rename_i hm
    obtain rfl := rp.int_; obtain rfl := rq.int_
    exact ⟨_, _, rfl, rfl, hm, k _ _ (newP (.int _))⟩
  · cases e
theorem un_negA : Un1 K mg negV (rU fun i => .int (-i)) := by
  intro N H p x z Q rp e k
  unfold negV at e
  split at e
  · cases e
    obtain rfl := rp.int_
    exact ⟨_, rfl, k _ _ (newP (.int _))⟩
  · cases e
/-! ### items -/
theorem atI_rep {xs : List PV} {vs : List V} {i : Int} {x : PV} (r : RepVs K mg N H xs vs) (h : atI xs i = some x) : ∃ v, L2.atI vs i = some v ∧ RepV K mg N H x v := by
  obtain ⟨j, h1, h2⟩ := Option.bind_eq_some_iff.mp h
  obtain ⟨v, h3, h4⟩ := r.get h2
  refine ⟨v, ?_, h4⟩
  unfold L2.atI
  have e : L2.ixN vs.length i = ixN xs.length i := by rw [r.length]; rfl
  rw [e, h1]
  exact h3
/-- a dict's item by its content -/
def rDG (K : PySem.W.Frag) (mg : MG) : R2 := fun x y H Q => ∃ N es k v, RepC K mg N H (.dic es) x ∧ RepC K mg N H k y ∧ getD es k = some v ∧ ∀ w, RepV K mg N H v w → Q w H
def rIxA (K : PySem.W.Frag) (mg : MG) : R2 := fun x y H Q => rIx K x y H Q ∨ rDG K mg x y H Q
theorem bin_ix : Bin2 K mg ixV (rIxA K mg) := by
  intro N H p q x y z Q rp rq e k
  unfold ixV at e
  split at e
  · obtain ⟨w, e1, rfl⟩ := Option.map_eq_some_iff.mp e
    obtain ⟨a, vs, rfl, ha, hs⟩ := rp.lst_
    obtain rfl := rq.int_
    obtain ⟨v, h1, h2⟩ := atI_rep hs e1
    exact .inl (.inl ⟨_, _, _, _, rfl, rfl, SqL.of ha, h1, k _ _ (newP h2)⟩)
  · obtain ⟨w, e1, rfl⟩ := Option.map_eq_some_iff.mp e
    obtain ⟨a, vs, rfl, ha, hs⟩ := rp.tup_
    obtain rfl := rq.int_
    obtain ⟨v, h1, h2⟩ := atI_rep hs e1
    exact .inl (.inr (.inl ⟨_, _, _, _, rfl, rfl, ha, h1, k _ _ (newP h2)⟩))
  · split at e
    · rename_i x i hz
      obtain ⟨c, e1, rfl⟩ := Option.map_eq_some_iff.mp e
      obtain rfl := rp.str_; obtain rfl := rq.int_
      exact .inl (.inr (.inr ⟨_, _, _, rfl, rfl, hz, e1, k _ _ (newP (.str _))⟩))
    · cases e
  · obtain ⟨v, e1, rfl⟩ := Option.map_eq_some_iff.mp e
    exact .inr ⟨N, _, _, v, rp, rq, e1, fun w r => k H w (newP r)⟩
  · cases e
/-! ### slices -/
theorem cut_eq {xs : List PV} {vs : List V} (r : RepVs K mg N H xs vs) (lo hi : Option Int) : RepVs K mg N H (cut xs lo hi) (cutV vs lo hi) := by
  unfold cut cutV
  rw [r.length]
  exact (r.drop _).take _
def rSlAll (K : PySem.W.Frag) : V → Option Int → Option Int → Hp → VK → Prop := fun x lo hi H Q => rSlL K x lo hi H Q ∨ rSlA K x lo hi H Q
theorem sl_all : SlR X (rSlAll X.K) := sl_list.or sl_tupA
theorem sl_val {p : PV} {lo hi : Option Int} {x : V} {z : XV} {Q : VK} (rp : RepC K mg N H p x) (e : slV p lo hi = some z) (k : ∀ H' v, NewX K mg N H H' z v → Q v H') : rSlAll K x lo hi H Q := by
  unfold slV at e
  split at e
  · cases e
    obtain ⟨a, vs, rfl, ha, hs⟩ := rp.lst_
    exact .inl ⟨_, _, rfl, SqL.of ha, fun p hp => k _ _ (newL hp (cut_eq hs lo hi))⟩
  · cases e
    obtain ⟨a, vs, rfl, ha, hs⟩ := rp.tup_
    refine .inr ⟨_, _, rfl, ha, fun hw => k _ _ (newP (.tup ha ?_)), fun _ p hp => k _ _ (newT hp (cut_eq hs lo hi))⟩
    have r := cut_eq hs lo hi
    have e2 : cutV vs lo hi = vs := by
      unfold cutV
      rw [hw.1, hw.2, List.drop_zero, Nat.sub_zero, List.take_length]
    rw [e2] at r
    exact r
  · cases e
end
end Pi

/-! Pi, part 4d: dicts. -/
namespace Pi
open PySem PySem.Spec L2
section
variable {X : Cx} {K : PySem.W.Frag} {mg : MG} {N N' F F' F1 : NA} {H H' H0 H1 H2 : Hp} {ρ ρ' ρ1 ρ2 : Env} {σ : St} {W : WX} {pins : List (Addr × Obj)} {s : Shared}
/-! ### keys -/
mutual
theorem nest_of (I : Inv X pins σ H s) : ∀ {n : Nat} {p : PV} {v : V} {u : Value}, RepV X.K X.mm N H p v → RelV v u → kD n p = true → ∃ k, nk p = some k ∧ k.depth ≤ n ∧ NestedIs s.heap k u
  | n, _, _, _, .non, r, _ => by cases r; exact ⟨.none, rfl, Nat.zero_le _, .none⟩
  | n, _, _, _, .bl b, r, _ => by cases r; exact ⟨_, rfl, Nat.zero_le _, .bool rfl⟩
  | n, _, _, _, .int b, r, _ => by obtain ⟨t, rfl⟩ := r; exact ⟨_, rfl, Nat.zero_le _, .int _ _⟩
  | n, _, _, _, .str b, r, _ => by obtain ⟨t, rfl⟩ := r; exact ⟨_, rfl, Nat.zero_le _, .text _ _⟩
  | n, _, _, _, .fn h, r, e => by cases n <;> simp [kD] at e
  | n, _, _, _, .scr h, r, e => by cases n <;> simp [kD] at e
  | n, _, _, _, .obj _ _ sh _, r, e => by cases sh <;> cases n <;> simp [kD] at e
  | 0, _, _, _, .tup h hs, r, e => by simp [kD] at e
  | n + 1, _, _, _, .tup h hs, r, e => by
    cases r
    obtain ⟨its, rv, ⟨o, ho, hc, m, hd⟩, _⟩ := I.tuple h
    obtain ⟨ks, h1, h2, h3⟩ := nests_of I hs rv (by simpa [kD] using e)
    refine ⟨.tup ks, by rw [nk, h1]; rfl, by rw [NestedKey.depth]; omega, .tup ho hc hd (by simpa using h3)⟩
theorem nests_of (I : Inv X pins σ H s) : ∀ {n : Nat} {p : List PV} {v : List V} {u : List Value}, RepVs X.K X.mm N H p v → Vals v u → (∀ x ∈ p, kD n x = true) → ∃ ks, nks p = some ks ∧ NestedKey.depthAll ks ≤ n ∧ NestedAll s.heap ks u
  | n, _, _, _, .nil, r, _ => by cases r; exact ⟨[], rfl, Nat.zero_le _, .nil⟩
  | n, _, _, _, .cons h hs, r, e => by
    cases r with
    | cons r rs =>
      obtain ⟨k, h1, h2, h3⟩ := nest_of I h r (e _ List.mem_cons_self)
      obtain ⟨ks, h4, h5, h6⟩ := nests_of I hs rs fun x hx => e x (List.mem_cons_of_mem _ hx)
      exact ⟨k :: ks, by rw [nks, h1, h4]; rfl, by rw [NestedKey.depthAll]; omega, .cons h3 h6⟩
end
mutual
theorem eqv_nk : ∀ (p q : PV) (a b : NestedKey), nk p = some a → nk q = some b → eqv p q = NestedKey.beq a b
  | .non, q, a, b, h1, h2 => by
    simp only [nk, Option.some.injEq] at h1; subst h1
    cases q with
    | bl y => simp only [nk, Option.some.injEq] at h2; subst h2; simp [eqv, NestedKey.beq]
    | int y => simp only [nk, Option.some.injEq] at h2; subst h2; simp [eqv, NestedKey.beq]
    | non => simp only [nk, Option.some.injEq] at h2; subst h2; simp [eqv, NestedKey.beq]
    | str y => simp only [nk, Option.some.injEq] at h2; subst h2; simp [eqv, NestedKey.beq]
    | tup y => simp only [nk, Option.map_eq_some_iff] at h2; obtain ⟨z, _, rfl⟩ := h2; simp [eqv, NestedKey.beq]
    | _ => simp [nk] at h2
  | .bl x, q, a, b, h1, h2 => by
    simp only [nk, Option.some.injEq] at h1; subst h1
    cases q with
    | bl y => simp only [nk, Option.some.injEq] at h2; subst h2; cases x <;> cases y <;> simp [eqv, NestedKey.beq]
    | int y => simp only [nk, Option.some.injEq] at h2; subst h2; simp only [eqv, NestedKey.beq]; rfl
    | non => simp only [nk, Option.some.injEq] at h2; subst h2; simp [eqv, NestedKey.beq]
    | str y => simp only [nk, Option.some.injEq] at h2; subst h2; simp [eqv, NestedKey.beq]
    | tup y => simp only [nk, Option.map_eq_some_iff] at h2; obtain ⟨z, _, rfl⟩ := h2; simp [eqv, NestedKey.beq]
    | _ => simp [nk] at h2
  | .int x, q, a, b, h1, h2 => by
    simp only [nk, Option.some.injEq] at h1; subst h1
    cases q with
    | bl y => simp only [nk, Option.some.injEq] at h2; subst h2; simp only [eqv, NestedKey.beq]; rfl
    | int y => simp only [nk, Option.some.injEq] at h2; subst h2; simp only [eqv, NestedKey.beq]; rfl
    | non => simp only [nk, Option.some.injEq] at h2; subst h2; simp [eqv, NestedKey.beq]
    | str y => simp only [nk, Option.some.injEq] at h2; subst h2; simp [eqv, NestedKey.beq]
    | tup y => simp only [nk, Option.map_eq_some_iff] at h2; obtain ⟨z, _, rfl⟩ := h2; simp [eqv, NestedKey.beq]
    | _ => simp [nk] at h2
  | .str x, q, a, b, h1, h2 => by
    simp only [nk, Option.some.injEq] at h1; subst h1
    cases q with
    | bl y => simp only [nk, Option.some.injEq] at h2; subst h2; simp [eqv, NestedKey.beq]
    | int y => simp only [nk, Option.some.injEq] at h2; subst h2; simp [eqv, NestedKey.beq]
    | non => simp only [nk, Option.some.injEq] at h2; subst h2; simp [eqv, NestedKey.beq]
    | str y => simp only [nk, Option.some.injEq] at h2; subst h2; simp only [eqv, NestedKey.beq]; rfl
    | tup y => simp only [nk, Option.map_eq_some_iff] at h2; obtain ⟨z, _, rfl⟩ := h2; simp [eqv, NestedKey.beq]
    | _ => simp [nk] at h2
  | .tup xs, q, a, b, h1, h2 => by
    simp only [nk, Option.map_eq_some_iff] at h1
    obtain ⟨as, h1, rfl⟩ := h1
    cases q with
    | bl y => simp only [nk, Option.some.injEq] at h2; subst h2; simp [eqv, NestedKey.beq]
    | int y => simp only [nk, Option.some.injEq] at h2; subst h2; simp [eqv, NestedKey.beq]
    | non => simp only [nk, Option.some.injEq] at h2; subst h2; simp [eqv, NestedKey.beq]
    | str y => simp only [nk, Option.some.injEq] at h2; subst h2; simp [eqv, NestedKey.beq]
    | tup y =>
      simp only [nk, Option.map_eq_some_iff] at h2
      obtain ⟨z, h2, rfl⟩ := h2
      rw [eqv, NestedKey.beq]
      exact eqvs_nk xs y as z h1 h2
    | _ => simp [nk] at h2
  | .lst _, _, _, _, h1, _ => by simp [nk] at h1
  | .dic _, _, _, _, h1, _ => by simp [nk] at h1
  | .fn _, _, _, _, h1, _ => by simp [nk] at h1
  | .scr _, _, _, _, h1, _ => by simp [nk] at h1
theorem eqvs_nk : ∀ (p q : List PV) (a b : List NestedKey), nks p = some a → nks q = some b → eqvs p q = NestedKey.beqAll a b
  | [], [], a, b, h1, h2 => by simp only [nks, Option.some.injEq] at h1 h2; subst h1 h2; simp [eqvs, NestedKey.beqAll]
  | [], y :: ys, a, b, h1, h2 => by
    simp only [nks, Option.some.injEq] at h1; subst h1
    obtain ⟨k, _, h⟩ := Option.bind_eq_some_iff.mp h2
    obtain ⟨ks, _, rfl⟩ := Option.map_eq_some_iff.mp h
    simp [eqvs, NestedKey.beqAll]
  | x :: xs, [], a, b, h1, h2 => by
    simp only [nks, Option.some.injEq] at h2; subst h2
    obtain ⟨k, _, h⟩ := Option.bind_eq_some_iff.mp h1
    obtain ⟨ks, _, rfl⟩ := Option.map_eq_some_iff.mp h
    simp [eqvs, NestedKey.beqAll]
  | x :: xs, y :: ys, a, b, h1, h2 => by
    obtain ⟨k, e1, h⟩ := Option.bind_eq_some_iff.mp h1
    obtain ⟨ks, e2, rfl⟩ := Option.map_eq_some_iff.mp h
    obtain ⟨l, e3, h⟩ := Option.bind_eq_some_iff.mp h2
    obtain ⟨ls, e4, rfl⟩ := Option.map_eq_some_iff.mp h
    rw [eqvs, NestedKey.beqAll, eqv_nk x y k l e1 e3, eqvs_nk xs ys ks ls e2 e4]
end
mutual
theorem nk_kD : ∀ (k : PV) (z : NestedKey), nk k = some z → ∀ n, z.depth ≤ n → kD n k = true
  | .non, _, _, n, _ => by rw [kD]
  | .bl _, _, _, n, _ => by rw [kD]
  | .int _, _, _, n, _ => by rw [kD]
  | .str _, _, _, n, _ => by rw [kD]
  | .tup xs, z, h, n, hn => by
    simp only [nk, Option.map_eq_some_iff] at h
    obtain ⟨ks, h, rfl⟩ := h
    rw [NestedKey.depth] at hn
    cases n with
    | zero => omega
    | succ n =>
      rw [kD, List.all_eq_true]
      exact nks_kD xs ks h n (by omega)
  | .lst _, _, h, _, _ => by simp [nk] at h
  | .dic _, _, h, _, _ => by simp [nk] at h
  | .fn _, _, h, _, _ => by simp [nk] at h
  | .scr _, _, h, _, _ => by simp [nk] at h
theorem nks_kD : ∀ (k : List PV) (z : List NestedKey), nks k = some z → ∀ n, NestedKey.depthAll z ≤ n → ∀ x ∈ k, kD n x = true
  | [], _, _, n, _, x, hx => by simp at hx
  | y :: ys, z, h, n, hn, x, hx => by
    obtain ⟨k, e1, h⟩ := Option.bind_eq_some_iff.mp h
    obtain ⟨ks, e2, rfl⟩ := Option.map_eq_some_iff.mp h
    rw [NestedKey.depthAll] at hn
    rcases List.mem_cons.mp hx with e | hx
    · rw [e]; exact nk_kD y k e1 n (by omega)
    · exact nks_kD ys ks e2 n (by omega) x hx
end
theorem eqv_dec {p q : PV} {a b : NestedKey} (h1 : nk p = some a) (h2 : nk q = some b) : eqv p q = decide (a = b) := by
  rw [eqv_nk p q a b h1 h2, NestedKey.decide_eq]
/-! ### what a dict holds -/
/-- two answers of one look -/
def ROp (K : PySem.W.Frag) (mg : MG) (N : NA) (H : Hp) : Option PV → Option V → Prop
  | some v, some w => RepV K mg N H v w
  | none, none => True
  | _, _ => False
theorem ROp.some {v : PV} {o : Option V} (h : ROp K mg N H (some v) o) : ∃ w, o = some w ∧ RepV K mg N H v w := by
  cases o with
  | none => exact h.elim
  | some w => exact ⟨w, rfl, h⟩
theorem ROp.isSome {o : Option PV} {w : Option V} (h : ROp K mg N H o w) : o.isSome = w.isSome := by
  cases o <;> cases w <;> first | rfl | exact h.elim
def skey : PV → Option Key
  | .int i => some (.inl i)
  | .str x => some (.inr x)
  | _ => none
theorem skey_of {k : PV} (h : isSK k = true) : ∃ key, skey k = some key ∧ k = keyP key := by
  cases k with
  | int i => exact ⟨.inl i, rfl, rfl⟩
  | str i => exact ⟨.inr i, rfl, rfl⟩
  | _ => simp at h
theorem keyP_sk (k : Key) : isSK (keyP k) = true := by cases k <;> rfl
theorem keyP_eqv (a b : Key) : eqv (keyP a) (keyP b) = decide (a = b) := by
  cases a with
  | inl i => cases b with
    | inl j => by_cases h : i = j <;> simp [keyP, eqv, h]
    | inr j => simp [keyP, eqv]
  | inr i => cases b with
    | inl j => simp [keyP, eqv]
    | inr j => by_cases h : i = j <;> simp [keyP, eqv, h]
theorem look_dK {key : Key} : ∀ {kvs : List (Key × V)} {xs : List PV}, RepVs K mg N H xs (kvs.map (·.2)) → ROp K mg N H (look (zipE (kvs.map fun p => keyP p.1) xs) (keyP key)) (valV kvs key)
  | [], _, h => by cases h; exact True.intro
  | p :: kvs, _, h => by
    cases h with
    | cons r t =>
      rw [List.map_cons, zipE, look, keyP_eqv]
      by_cases e : p.1 = key
      · rw [decide_eq_true e, if_pos rfl, valV_pos e]; exact r
      · rw [decide_eq_false e, if_neg Bool.false_ne_true, valV_neg e]; exact look_dK t
abbrev KsOk (ks : List PV) (L : NL) : Prop := Paired (fun k (l : NestedKey × Addr × Value) => nk k = some l.1 ∧ l.1.depth ≤ 8) ks L
/-- an entry's value -/
def RO2 (K : PySem.W.Frag) (mg : MG) (N : NA) (H : Hp) (o : Option PV) (u : Option Value) : Prop := ∃ w, ROp K mg N H o w ∧ RelO w u
theorem look_dN {key : NestedKey} {k : PV} (hk : nk k = some key) : ∀ {ks ps : List PV} {L : NL} {ws : List V}, KsOk ks L → Paired RelV ws (L.map (·.2.2)) → RepVs K mg N H ps ws → RO2 K mg N H (look (zipE ks ps) k) ((atKey L key).map (·.2))
  | _, _, _, _, .nil, w, r => by
    cases w; cases r
    exact ⟨none, True.intro, True.intro⟩
  | _, _, _, _, .cons (a := a) (b := l) h t, w, r => by
    cases w with
    | cons rw tw =>
      cases r with
      | cons rp tp =>
        rw [zipE, look, eqv_dec h.1 hk]
        by_cases e : l.1 = key
        · rw [decide_eq_true e, if_pos rfl]
          have : ∀ r : NL, atKey (l :: r) key = some l.2 := fun r => by simp [atKey, List.find?_cons, e]
          rw [this]
          exact ⟨some _, rp, rw⟩
        · rw [decide_eq_false e, if_neg Bool.false_ne_true]
          have : ∀ r : NL, atKey (l :: r) key = atKey r key := fun r => by simp [atKey, List.find?_cons, e]
          rw [this]
          exact look_dN hk t tw tp
theorem RepC.dic_ {es : List PV} {x : V} (h : RepC K mg N H (.dic es) x) : ∃ a ob xs vs, x = .ref a ∧ H a = some ob ∧ Shp mg a (.dic es) ob xs vs ∧ RepVs K mg N H xs vs := by
  cases h with
  | val h => cases h with
    | obj h n sh hs => exact ⟨_, _, _, _, rfl, h, sh, hs⟩
  | own h => cases h with
    | mk h sh hs => exact ⟨_, _, _, _, rfl, h, sh, hs⟩
theorem RepC.sk_ {k : PV} {y : V} (h : RepC K mg N H k y) (hs : isSK k = true) : ∃ key, k = keyP key ∧ y = kV key := by
  cases k with
  | int i => exact ⟨.inl i, rfl, h.int_⟩
  | str i => exact ⟨.inr i, rfl, h.str_⟩
  | _ => simp at hs
theorem RepC.nk_ (I : Inv X pins σ H s) {k : PV} {y : V} {u : Value} (h : RepC X.K X.mm N H k y) (ry : RelV y u) (hs : isNK k = true) : ∃ key b, nk k = some key ∧ u = .ref b ∧ key.depth ≤ 8 ∧ NestedIs s.heap key (.ref b) := by
  cases k with
  | tup xs =>
    obtain ⟨a, vs, rfl, ht, hv⟩ := h.tup_
    cases ry
    have hs' : ∀ x ∈ xs, kD 7 x = true := by simpa [isNK] using hs
    obtain ⟨key, h1, h2, h3⟩ := nest_of (n := 8) I (RepV.tup (N := N) ht hv) (show RelV (.ref a) (.ref a) from rfl) (by rw [kD]; simpa using hs')
    exact ⟨key, a, h1, rfl, h2, h3⟩
  | _ => simp [isNK] at hs
theorem zipE_all {f : PV → Bool} : ∀ {ks ps : List PV}, ks.length = ps.length → ((zipE ks ps).all fun e => (keyOf e).any f) = ks.all f
  | [], [], _ => rfl
  | k :: ks, p :: ps, h => by
    rw [zipE, List.all_cons, List.all_cons, zipE_all (Nat.succ.inj h)]
    rfl
/-- the dict's object, by keys that are tuples -/
theorem nest_obj (I : Inv X pins σ H s) {a : Addr} {L : NL} {ks : List PV} (h : H a = some (nestO X.w a L)) (hk : KsOk ks L) (hs : RepVs X.K X.mm N H ks (L.map fun l => V.ref l.2.1)) :
    (a == sysModules) = false ∧ L.length ≤ sizeLine ∧ s.heap.DictOfH (nestedKind X.prog X.w) a L := by
  obtain ⟨⟨h1, h2, o, es, ep, h3, h4, h5, h6, h7⟩, _, _⟩ := I.hok a _ h
  refine ⟨h1, h2, o, es, ep, h3, h4, h5, h6, ?_, h7⟩
  have all : ∀ {ks : List PV} {L : NL}, KsOk ks L → RepVs X.K X.mm N H ks (L.map fun l => V.ref l.2.1) → ∀ l ∈ L, (nestedKind X.prog X.w).is s.heap l.1 l.2.1 := by
    intro ks L hk
    induction hk with
    | nil => intro _ l hl; simp at hl
    | @cons k l ks L hq t ih =>
      intro r x hx
      cases r with
      | cons r1 r2 =>
        rcases List.mem_cons.mp hx with rfl | hx
        · refine ⟨?_, hq.2⟩
          have key : ∀ {k : PV} {z : NestedKey} {b : Addr}, nk k = some z → RepV X.K X.mm N H k (.ref b) → NestedIs s.heap z (.ref b) := by
            intro k z b hz rk
            have kd : ∃ n, kD n k = true := by
              have kk : ∀ (k : PV) (z : NestedKey), nk k = some z → ∀ n, z.depth ≤ n → kD n k = true := nk_kD
              exact ⟨_, kk k z hz z.depth (Nat.le_refl _)⟩
            obtain ⟨n, kd⟩ := kd
            obtain ⟨z', e1, _, e2⟩ := nest_of I rk (show RelV (.ref b) (.ref b) from rfl) kd
            rw [hz] at e1; cases e1
            exact e2
          exact key hq.1 r1
        · exact ih r2 x hx
  exact all hk hs
end
section
variable {X : Cx} {K : PySem.W.Frag} {mg : MG} {N N' F F' F1 : NA} {H H' H0 H1 H2 : Hp} {ρ ρ' ρ1 ρ2 : Env} {σ : St} {W : WX} {pins : List (Addr × Obj)} {s : Shared} {A : Around} {E : Value → Shared → Prop} {es : List PV} {k : PV} {x y : V} {u v : Value}
theorem nest_nil (I : Inv X pins σ H s) {a : Addr} (h : H a = some (.dK [])) : (a == sysModules) = false ∧ s.heap.DictOfH (nestedKind X.prog X.w) a [] := by
  obtain ⟨_, h1, vs, rel, o, es, ep, h2, h3, h4, h5, h6, h7⟩ := dk_of I.hok h
  cases rel
  refine ⟨h1, o, es, ep, h2, h3, h4, ?_, fun _ z => by simp at z, List.nodup_nil⟩
  cases e : es.toList with
  | nil => rfl
  | cons z r => rw [e] at h6; cases h6
/-- which dict it is -/
inductive DCase (X : Cx) (s : Shared) (N : NA) (H : Hp) (a : Addr) (y : V) (u : Value) (o : Option PV) : Prop
  | sk (kvs : List (Key × V)) (key : Key) : H a = some (.dK kvs) → y = kV key → ROp X.K X.mm N H o (valV kvs key) → DCase X s N H a y u o
  | nk (L : NL) (b : Addr) (key : NestedKey) : (a == sysModules) = false → L.length ≤ sizeLine → s.heap.DictOfH (nestedKind X.prog X.w) a L → u = .ref b → (nestedKind X.prog X.w).is s.heap key b → RO2 X.K X.mm N H o ((atKey L key).map (·.2)) → DCase X s N H a y u o
theorem RepVs.split : ∀ {xs ys : List PV} {vs : List V}, RepVs K mg N H (xs ++ ys) vs → ∃ v1 v2, vs = v1 ++ v2 ∧ RepVs K mg N H xs v1 ∧ RepVs K mg N H ys v2
  | [], ys, vs, h => ⟨[], vs, rfl, .nil, h⟩
  | x :: xs, ys, _, .cons r t => by
    obtain ⟨v1, v2, rfl, h1, h2⟩ := RepVs.split t
    exact ⟨_ :: v1, v2, rfl, .cons r h1, h2⟩
theorem ksOk_len {ks : List PV} {L : NL} (h : KsOk ks L) : ks.length = L.length := Paired.length h
theorem dN_split {ks ps : List PV} {L : NL} {ws : List V} (hk : KsOk ks L) (h : RepVs K mg N H (ks ++ ps) (L.map (fun l => V.ref l.2.1) ++ ws)) : RepVs K mg N H ks (L.map fun l => V.ref l.2.1) ∧ RepVs K mg N H ps ws := by
  obtain ⟨v1, v2, e, h1, h2⟩ := h.split
  have hl : v1.length = (L.map fun l => V.ref l.2.1).length := by rw [← h1.length, ksOk_len hk, List.length_map]
  obtain ⟨e1, e2⟩ := List.append_inj e.symm hl
  subst e1 e2
  exact ⟨h1, h2⟩
theorem dic_case (I : Inv X pins σ H s) (hd : RepC X.K X.mm N H (.dic es) x) (hk : RepC X.K X.mm N' H k y) (ry : RelV y u) (c : dkOk es k = true) : ∃ a, x = .ref a ∧ DCase X s N H a y u (look es k) := by
  obtain ⟨a, ob, xs, vs, rfl, ha, sh, hs⟩ := hd.dic_
  refine ⟨a, rfl, ?_⟩
  unfold dkOk at c
  simp only [Bool.and_eq_true, Bool.or_eq_true] at c
  obtain ⟨c1, c2⟩ := c
  cases sh with
  | dK =>
    rename_i kvs
    by_cases h : isSK k = true
    · obtain ⟨key, rfl, rfl⟩ := hk.sk_ h
      exact .sk kvs key ha rfl (look_dK hs)
    · obtain ⟨key, b, h1, rfl, h2, h3⟩ := hk.nk_ I ry (c1.resolve_left h)
      cases kvs with
      | nil =>
        cases hs
        obtain ⟨q1, q2⟩ := nest_nil I ha
        exact .nk [] b key q1 (Nat.zero_le _) q2 rfl ⟨h3, h2⟩ ⟨none, True.intro, True.intro⟩
      | cons p kvs =>
        cases hs with
        | cons r t =>
          simp only [List.map_cons, zipE, List.all_cons, keyOf, Option.any_some, keyP_sk, Bool.and_eq_true] at c2
          have := c2.1
          simp only [beq_iff_eq] at this
          exact absurd this.symm h
  | dN nn ok rw =>
    rename_i ks ps L ws
    obtain ⟨r1, r2⟩ := dN_split ok hs
    have hl : ks.length = ps.length := by rw [ksOk_len ok, r2.length, Paired.length rw, List.length_map]
    rw [zipE_all (f := fun z => isSK z == isSK k) hl] at c2
    have hn : isSK k = false := by
      cases ks with
      | nil => cases ok; exact absurd rfl nn
      | cons k0 ks =>
        cases L with
        | nil => exact absurd rfl nn
        | cons l L =>
          cases r1 with
          | cons r1 _ =>
            simp only [List.all_cons, Bool.and_eq_true, beq_iff_eq] at c2
            rw [← c2.1]
            cases r1 with
            | obj _ _ sh _ => cases sh <;> rfl
            | _ => rfl
    obtain ⟨key, b, h1, rfl, h2, h3⟩ := hk.nk_ I ry (c1.resolve_left (by rw [hn]; exact Bool.false_ne_true))
    obtain ⟨q1, q2, q3⟩ := nest_obj I ha ok r1
    exact .nk L b key q1 q2 q3 rfl ⟨h3, h2⟩ (look_dN h1 ok rw r2)
theorem roomN (hu : A.units + 65 < cLine) : (nestedKind X.prog X.w).room A.in1 := by
  show A.in1.units + 8 < cLine
  have : A.in1.units = A.units + 1 := rfl
  omega
theorem RO2.isSome {o : Option PV} {w : Option Value} (h : RO2 K mg N H o w) : o.isSome = w.isSome := by
  obtain ⟨z, h1, h2⟩ := h
  rw [h1.isSome, h2.isSome_eq]
/-- k in d -/
theorem dic_in {Q : Value → Shared → Prop} (hu : A.units + 65 < cLine) (I : Inv X pins σ H s) (hd : RepC X.K X.mm N H (.dic es) x) (rx : RelV x v) (hk : RepC X.K X.mm N' H k y) (ry : RelV y u) (c : dkOk es k = true) (h : ∀ s', Inv X pins σ H s' → Q (.bool (look es k).isSome) s') :
    wpAny (model X.prog X.w) A (compareOp .In u v) Q E s := by
  obtain ⟨a, rfl, dc⟩ := dic_case I hd hk ry c
  cases rx
  cases dc with
  | sk kvs key ha e r =>
    subst e
    refine d_in (by omega) I (DGet.k ha) ry fun s' I' => ?_
    rw [← r.isSome]; exact h s' I'
  | nk L b key h1 h2 h3 e h4 r =>
    subst e
    refine wpAny_in_heap (roomN (X := X) hu) h4 h1 h3 ?_
    have := r.isSome
    rw [Option.isSome_map] at this
    rw [← this]; exact h _ (I.tok _)
theorem dic_notIn {Q : Value → Shared → Prop} (hu : A.units + 65 < cLine) (I : Inv X pins σ H s) (hd : RepC X.K X.mm N H (.dic es) x) (rx : RelV x v) (hk : RepC X.K X.mm N' H k y) (ry : RelV y u) (c : dkOk es k = true) (h : ∀ s', Inv X pins σ H s' → Q (.bool (!(look es k).isSome)) s') :
    wpAny (model X.prog X.w) A (compareOp .NotIn u v) Q E s := by
  obtain ⟨a, rfl, dc⟩ := dic_case I hd hk ry c
  cases rx
  cases dc with
  | sk kvs key ha e r =>
    subst e
    refine d_notIn (by omega) I (DGet.k ha) ry fun s' I' => ?_
    rw [← r.isSome]; exact h s' I'
  | nk L b key h1 h2 h3 e h4 r =>
    subst e
    refine PyProof.Rows.wpAny_notIn_heap (roomN (X := X) hu) h4 h1 h3 ?_
    have := r.isSome
    rw [Option.isSome_map] at this
    rw [← this]; exact h _ (I.tok _)
theorem dic_type (I : Inv X pins σ H s) (hd : RepC X.K X.mm N H (.dic es) x) (rx : RelV x v) : s.TypeIs v "dict" := by
  obtain ⟨a, ob, xs, vs, rfl, ha, sh, hs⟩ := hd.dic_
  cases rx
  cases sh with
  | dK =>
    obtain ⟨_, _, vs, _, dd⟩ := dk_of I.hok ha
    exact dd.typeIs
  | dN nn ok rw =>
    obtain ⟨r1, r2⟩ := dN_split ok hs
    exact (nest_obj I ha ok r1).2.2.typeIs
/-- d[k] -/
theorem dic_get {w : PV} {Q : Value → Shared → Prop} (hu : A.units + 65 < cLine) (I : Inv X pins σ H s) (hd : RepC X.K X.mm N H (.dic es) x) (rx : RelV x v) (hk : RepC X.K X.mm N' H k y) (ry : RelV y u) (c : getD es k = some w) (h : ∀ z w' s', Inv X pins σ H s' → RepV X.K X.mm N H w z → RelV z w' → Q w' s') :
    wpAny (model X.prog X.w) A (getItem v u) Q E s := by
  unfold getD at c
  split at c
  · rename_i c1
    obtain ⟨a, rfl, dc⟩ := dic_case I hd hk ry c1
    cases rx
    rw [c] at dc
    cases dc with
    | sk kvs key ha e r =>
      subst e
      obtain ⟨z, e1, e2⟩ := r.some
      exact d_getItem (by omega) I (show DGet H a (kV key) (some z) from e1 ▸ DGet.k ha) ry fun w' s' I' rw' => h z w' s' I' e2 rw'
    | nk L b key h1 h2 h3 e h4 r =>
      subst e
      obtain ⟨o, r1, r2⟩ := r
      obtain ⟨z, rfl, e2⟩ := r1.some
      cases q : atKey L key with
      | none => rw [q] at r2; exact r2.elim
      | some p =>
        rw [q] at r2
        exact wpAny_getItem_heap (roomN (X := X) hu) h4 h3 q (h z p.2 _ (I.tok _) e2 r2)
  · cases c
/-! ### d[k] = v -/
theorem zipE_snoc {k0 w0 : PV} : ∀ {ks xs : List PV}, ks.length = xs.length → zipE (ks ++ [k0]) (xs ++ [w0]) = zipE ks xs ++ [.tup [k0, w0]]
  | [], [], _ => rfl
  | k :: ks, x :: xs, h => by
    rw [List.cons_append, List.cons_append, zipE, zipE, zipE_snoc (Nat.succ.inj h), List.cons_append]
theorem RepVs.snoc' {xs : List PV} {vs : List V} {p : PV} {z : V} (h : RepVs K mg N H xs vs) (r : RepV K mg N H p z) : RepVs K mg N H (xs ++ [p]) (vs ++ [z]) := h.append (.cons r .nil)
theorem map_dK {key : Key} {w : PV} {z : V} (r : RepV K mg N H w z) : ∀ {kvs : List (Key × V)} {xs : List PV}, RepVs K mg N H xs (kvs.map (·.2)) →
    ∃ xs', RepVs K mg N H xs' ((kvs.map fun kv => if kv.1 = key then (kv.1, z) else kv).map (·.2)) ∧ (zipE (kvs.map fun p => keyP p.1) xs).map (ePut (keyP key) w) = zipE ((kvs.map fun kv => if kv.1 = key then (kv.1, z) else kv).map fun p => keyP p.1) xs'
  | [], _, h => by cases h; exact ⟨[], .nil, rfl⟩
  | p :: kvs, _, h => by
    cases h with
    | @cons x0 _ _ _ r0 t =>
      obtain ⟨xs', h1, h2⟩ := map_dK (key := key) r t
      by_cases e : p.1 = key
      · refine ⟨w :: xs', by simp only [List.map_cons, if_pos e]; exact .cons r h1, ?_⟩
        simp only [List.map_cons, if_pos e, zipE, h2, ePut, keyP_eqv, decide_eq_true e, if_true]
      · refine ⟨x0 :: xs', by simp only [List.map_cons, if_neg e]; exact .cons r0 h1, ?_⟩
        simp only [List.map_cons, if_neg e, zipE, h2, ePut, keyP_eqv, decide_eq_false e, Bool.false_eq_true, if_false]
theorem put_dK {key : Key} {w : PV} {z : V} (r : RepV K mg N H w z) {kvs : List (Key × V)} {xs : List PV} (h : RepVs K mg N H xs (kvs.map (·.2))) :
    ∃ xs', RepVs K mg N H xs' ((putK kvs key z).map (·.2)) ∧ putD (zipE (kvs.map fun p => keyP p.1) xs) (keyP key) w = zipE ((putK kvs key z).map fun p => keyP p.1) xs' := by
  have hl := (look_dK (key := key) h).isSome
  have hn : (kvs.map fun p => keyP p.1).length = xs.length := by rw [h.length, List.length_map, List.length_map]
  unfold putD putK
  rw [valV_any, hl]
  by_cases c : (valV kvs key).isSome = true
  · rw [if_pos c, if_pos c]
    exact map_dK r h
  · rw [if_neg c, if_neg c]
    refine ⟨xs ++ [w], by rw [List.map_append]; exact h.snoc' r, ?_⟩
    rw [List.map_append, List.map_cons, List.map_nil, zipE_snoc hn]
theorem map_dN {key : NestedKey} {k w : PV} {z : V} {u : Value} (hk : nk k = some key) (r : RepV K mg N H w z) (ru : RelV z u) : ∀ {ks ps : List PV} {L : NL} {ws : List V}, KsOk ks L → Paired RelV ws (L.map (·.2.2)) → RepVs K mg N H ps ws →
    ∃ ps' ws', KsOk ks (L.map (putAt key u)) ∧ Paired RelV ws' ((L.map (putAt key u)).map (·.2.2)) ∧ RepVs K mg N H ps' ws' ∧ (zipE ks ps).map (ePut k w) = zipE ks ps' ∧ (L.map (putAt key u)).map (fun l => V.ref l.2.1) = L.map fun l => V.ref l.2.1
  | _, _, _, _, .nil, rw, rp => by cases rw; cases rp; exact ⟨[], [], .nil, .nil, .nil, rfl, rfl⟩
  | _, _, _, _, .cons (a := k0) (b := l) h t, rw, rp => by
    cases rw with
    | @cons w0 _ _ _ rw tw =>
      cases rp with
      | @cons p0 _ _ _ rp tp =>
        obtain ⟨ps', ws', h1, h2, h3, h4, h5⟩ := map_dN hk r ru t tw tp
        by_cases e : l.1 = key
        · refine ⟨w :: ps', z :: ws', ?_, ?_, .cons r h3, ?_, ?_⟩
          · rw [List.map_cons]; exact .cons (by unfold putAt; rw [if_pos e]; exact h) h1
          · rw [List.map_cons, List.map_cons]; exact .cons (by unfold putAt; rw [if_pos e]; exact ru) h2
          · simp only [zipE, List.map_cons, h4, ePut, eqv_dec h.1 hk, decide_eq_true e, if_true]
          · rw [List.map_cons, List.map_cons, List.map_cons, h5]; unfold putAt; rw [if_pos e]
        · refine ⟨p0 :: ps', w0 :: ws', ?_, ?_, .cons rp h3, ?_, ?_⟩
          · rw [List.map_cons]; exact .cons (by unfold putAt; rw [if_neg e]; exact h) h1
          · rw [List.map_cons, List.map_cons]; exact .cons (by unfold putAt; rw [if_neg e]; exact rw) h2
          · simp only [zipE, List.map_cons, h4, ePut, eqv_dec h.1 hk, decide_eq_false e, Bool.false_eq_true, if_false]
          · rw [List.map_cons, List.map_cons, List.map_cons, h5]; unfold putAt; rw [if_neg e]
theorem Paired.snoc' {α β : Type} {R : α → β → Prop} : ∀ {xs : List α} {ys : List β} {x : α} {y : β}, Paired R xs ys → R x y → Paired R (xs ++ [x]) (ys ++ [y])
  | _, _, _, _, .nil, h => .cons h .nil
  | _, _, _, _, .cons r t, h => .cons r (Paired.snoc' t h)
theorem put_dN {key : NestedKey} {k w : PV} {z : V} {u : Value} {b : Addr} (hk : nk k = some key) (hd : key.depth ≤ 8) (rk : RepV K mg N H k (.ref b)) (r : RepV K mg N H w z) (ru : RelV z u) {ks ps : List PV} {L : NL} {ws : List V} (h1 : KsOk ks L) (h2 : Paired RelV ws (L.map (·.2.2)))
    (h0 : RepVs K mg N H ks (L.map fun l => V.ref l.2.1)) (h3 : RepVs K mg N H ps ws) : ∃ ks' ps' ws', storedH L key b u ≠ [] ∧ KsOk ks' (storedH L key b u) ∧ Paired RelV ws' ((storedH L key b u).map (·.2.2)) ∧ RepVs K mg N H ks' ((storedH L key b u).map fun l => V.ref l.2.1) ∧ RepVs K mg N H ps' ws' ∧ putD (zipE ks ps) k w = zipE ks' ps' := by
  have hl := (look_dN hk h1 h2 h3).isSome
  rw [Option.isSome_map] at hl
  have hn : ks.length = ps.length := by rw [ksOk_len h1, h3.length, Paired.length h2, List.length_map]
  unfold putD storedH
  rw [hl]
  by_cases c : (atKey L key).isSome = true
  · rw [if_pos c, if_pos c]
    obtain ⟨ps', ws', g1, g2, g3, g4, g5⟩ := map_dN hk r ru h1 h2 h3
    refine ⟨ks, ps', ws', ?_, g1, g2, by rw [g5]; exact h0, g3, g4⟩
    intro e
    have : L = [] := List.map_eq_nil_iff.mp e
    subst this
    simp [atKey] at c
  · rw [if_neg c, if_neg c]
    refine ⟨ks ++ [k], ps ++ [w], ws ++ [z], by simp, Paired.snoc' h1 ⟨hk, hd⟩, ?_, ?_, h3.snoc' r, (zipE_snoc hn).symm⟩
    · rw [List.map_append]; exact Paired.snoc' h2 ru
    · rw [List.map_append]; exact h0.snoc' rk
/-- d[k] = w -/
def rSetD (K : PySem.W.Frag) (mg : MG) : TSet := fun o i v H Q => ∃ N es k w, RepC K mg N H (.dic es) o ∧ RepC K mg N H k i ∧ dkOk es k = true ∧ es.length < sizeLine ∧ RepV K mg N H w v ∧
  ∀ a ob xs vs, o = .ref a → Shp mg a (.dic (putD es k w)) ob xs vs → RepVs K mg N H xs vs → Q (upd H a ob)
theorem zipE_len : ∀ {ks ps : List PV}, ks.length = ps.length → (zipE ks ps).length = ks.length
  | [], [], _ => rfl
  | k :: ks, p :: ps, h => by rw [zipE, List.length_cons, List.length_cons, zipE_len (Nat.succ.inj h)]
theorem storedH_len {L : NL} {key : NestedKey} {b : Addr} {u : Value} : (storedH L key b u).length ≤ L.length + 1 := by
  unfold storedH
  split
  · rw [List.length_map]; omega
  · rw [List.length_append]; simp
theorem dic_set (hu : X.A.units + 65 < cLine) : PSet X (rSetD X.K X.mm) := by
  intro pins s σ H o i v ov iv u Q I ro ri rv h
  obtain ⟨N, es, k, w, hd, hk, c, hlen, hw, q⟩ := h
  obtain ⟨a, ob, xs, vs, rfl, ha, sh, hs⟩ := hd.dic_
  cases ro
  have c0 := c
  unfold dkOk at c
  simp only [Bool.and_eq_true, Bool.or_eq_true] at c
  obtain ⟨c1, c2⟩ := c
  have nest : ∀ (ks ps : List PV) (L : NL) (ws : List V) (ob0 : HO), H a = some ob0 → L2.Mut (H a) → es = zipE ks ps → KsOk ks L → Paired RelV ws (L.map (·.2.2)) → RepVs X.K X.mm N H ks (L.map fun l => V.ref l.2.1) → RepVs X.K X.mm N H ps ws → (a == sysModules) = false → s.heap.DictOfH (nestedKind X.prog X.w) a L → isNK k = true →
      wpAny (model X.prog X.w) X.A (setItem (.ref a) iv u) (fun _ s' => ∃ H', L2.Inv X pins σ H' s' ∧ Q H') X.xe s := by
    intro ks ps L ws ob0 hob mu ee ok rw r0 r1 hsys hdd hn
    obtain ⟨key, b, h1, rfl, h2, h3⟩ := hk.nk_ I ri hn
    have hn2 : ks.length = ps.length := by rw [ksOk_len ok, r1.length, Paired.length rw, List.length_map]
    have hll : L.length < sizeLine := by
      rw [ee, zipE_len hn2, ksOk_len ok] at hlen; exact hlen
    have rk : RepV X.K X.mm N H k i := by
      cases k with
      | tup zs => obtain ⟨z1, z2, z3, z4, z5⟩ := hk.tup_; rw [z3]; exact .tup z4 z5
      | _ => simp [isNK] at hn
    have hi : i = .ref b := by
      cases i <;> first | (cases ri; rfl) | (obtain ⟨t, z⟩ := ri; cases z) | cases ri
    rw [hi] at rk
    obtain ⟨ks', ps', ws', g0, g1, g2, g3, g4, g5⟩ := put_dN (u := u) h1 h2 rk hw rv ok rw r0 r1
    refine wpAny_setItem_heap (hsz := Nat.le_of_lt hll) (roomN (X := X) hu) ⟨h3, h2⟩ hdd fun h' dd' hs' => ?_
    obtain ⟨oo, ees, ep, k1, k2, k3, k4, k5, k6⟩ := dd'
    have new : ObjOk X.prog X.w (upd H a (nestO X.w a (storedH L key b u))) h' a (nestO X.w a (storedH L key b u)) := by
      refine ⟨⟨hsys, by have := storedH_len (L := L) (key := key) (b := b) (u := u); omega, oo, ees, ep, k1, k2, k3, k4, k6⟩, ⟨oo, k1⟩, fun h1 h2 p st => ?_⟩
      obtain ⟨p1, p2, oo, ees, ep, p3, p4⟩ := p
      exact ⟨p1, p2, oo, ees, ep, st _ p3, p4⟩
    refine ⟨upd H a (nestO X.w a (storedH L key b u)), d_write I mu hs' ⟨oo, k1⟩ new, ?_⟩
    refine q a _ (ks' ++ ps') ((storedH L key b u).map (fun l => V.ref l.2.1) ++ ws') rfl ?_ (g3.append g4)
    rw [ee, g5]
    exact .dN g0 g1 g2
  cases sh with
  | dK =>
    rename_i kvs
    by_cases h : isSK k = true
    · obtain ⟨key, rfl, rfl⟩ := hk.sk_ h
      have hn : (kvs.map fun p => keyP p.1).length = xs.length := by rw [hs.length, List.length_map, List.length_map]
      have hll : kvs.length < sizeLine := by rw [zipE_len hn, List.length_map] at hlen; exact hlen
      obtain ⟨xs', g1, g2⟩ := put_dK (key := key) hw hs
      refine d_setItem (by omega) I (DPut.k ha hll) ri rv fun s' I' => ⟨_, I', ?_⟩
      refine q a _ xs' _ rfl ?_ g1
      rw [g2]
      exact .dK
    · have hn := c1.resolve_left h
      cases kvs with
      | nil =>
        cases hs
        obtain ⟨q1, q2⟩ := nest_nil I ha
        exact nest [] [] [] [] _ ha (by rw [ha]; exact True.intro) rfl .nil .nil .nil .nil q1 q2 hn
      | cons p kvs =>
        cases hs with
        | cons r t =>
          simp only [List.map_cons, zipE, List.all_cons, keyOf, Option.any_some, keyP_sk, Bool.and_eq_true] at c2
          have := c2.1
          simp only [beq_iff_eq] at this
          exact absurd this.symm h
  | dN nn ok rw =>
    rename_i ks ps L ws
    obtain ⟨r1, r2⟩ := dN_split ok hs
    obtain ⟨q1, q2, q3⟩ := nest_obj I ha ok r1
    have hn2 : ks.length = ps.length := by rw [ksOk_len ok, r2.length, Paired.length rw, List.length_map]
    rw [zipE_all (f := fun z => isSK z == isSK k) hn2] at c2
    have hn : isSK k = false := by
      cases ks with
      | nil => cases ok; exact absurd rfl nn
      | cons k0 ks =>
        cases L with
        | nil => exact absurd rfl nn
        | cons l L =>
          cases r1 with
          | cons r1 _ =>
            simp only [List.all_cons, Bool.and_eq_true, beq_iff_eq] at c2
            rw [← c2.1]
            cases r1 with
            | obj _ _ sh _ => cases sh <;> rfl
            | _ => rfl
    exact nest ks ps L ws _ ha (by rw [ha]; exact True.intro) rfl ok rw r1 r2 q1 q3 (c1.resolve_left (by rw [hn]; exact Bool.false_ne_true))
theorem sub_any {w0 sl0 : Expr} {o i : Value} {T id : String} {Q : Value → Shared → Prop} (ht : s.TypeIs o T) (hl : typeLookup (.type T) "__getitem__" = pure (some (.builtin id))) (h : wpAny (model X.prog X.w) A (getItem o i) Q E s)
    (hs : subscripted sl0 false o i = operate [o, i] (getItem o i)) : wpAny (model X.prog X.w) A (PyProof.Rows.subscriptTail w0 sl0 o i) Q E s := by
  unfold PyProof.Rows.subscriptTail; refine wpAny_bind ?_; rw [getitemInPython_of_ne ht.not_modules]
  refine wpAny_bind (wpAny_specialOf ht hl ?_)
  have fin : wpAny (model X.prog X.w) A (subscripted sl0 false o i) (fun r s2 => wpAny (model X.prog X.w) A (letTemporaryGo w0 o r >>= fun _ => pure r) Q E s2) E s := by
    rw [hs]; exact wpAny_operating (wpAny_mono h (fun r s2 g => wpAny_bind (wpAny_letTemporaryGo (wpAny_pure g))) fun _ _ x => x)
  first
  | exact wpAny_pure (wpAny_bind fin)
  | exact wpAny_bind (wpAny_pure (wpAny_bind fin))
  | exact wpAny_bind fin
theorem ix_dic (hu : X.A.units + 65 < cLine) : IxR X (rDG X.K X.mm) := by
  intro value slice pins s σ H x y v u Q I rx ry h hs
  obtain ⟨N, es, k, w, h1, h2, h3, q⟩ := h
  refine sub_any (dic_type I h1 rx) PySem.F.slot_dict_getitem.lookup (dic_get (Q := EP X pins σ Q) hu I h1 rx h2 ry h3 fun z w' s' I' r1 r2 => ⟨z, H, I', r2, q z r1⟩) hs
theorem ix_all (hu : X.A.units + 65 < cLine) : IxR X (rIxA X.K X.mm) := by
  intro value slice pins s σ H x y v u Q I rx ry h hs
  rcases h with h | h
  · exact ix_seq value slice pins s σ H x y v u Q I rx ry h hs
  · exact ix_dic hu value slice pins s σ H x y v u Q I rx ry h hs
end
end Pi

/-! Pi, part 5: comparisons, built-in functions. -/
namespace Pi
open PySem PySem.Spec L2
section
variable {X : Cx} {K : PySem.W.Frag} {mg : MG} {N N' F F' F1 : NA} {H H' H0 H1 H2 : Hp} {ρ ρ' ρ1 ρ2 : Env} {σ : St} {W : WX}
/-! ### data -/
mutual
theorem dp_of : ∀ {n : Nat} {p : PV} {v : V}, RepV K mg N H p v → pl n p = true → Dp K H v (toD p)
  | _, _, _, .non, _ => by rw [toD]; exact .non
  | _, _, _, .bl b, _ => by rw [toD]; exact .bl b
  | _, _, _, .int b, _ => by rw [toD]; exact .int b
  | _, _, _, .str b, _ => by rw [toD]; exact .str b
  | n, _, _, .fn h, e => by cases n <;> simp [pl] at e
  | n, _, _, .scr h, e => by cases n <;> simp [pl] at e
  | 0, _, _, .tup h hs, e => by simp [pl] at e
  | 0, _, _, .obj h _ sh hs, e => by cases sh <;> simp [pl] at e
  | n + 1, _, _, .tup h hs, e => by
    rw [toD]
    exact .tup h (dps_of hs (by simpa [pl] using e))
  | n + 1, _, _, .obj h _ sh hs, e => by
    cases sh with
    | lst =>
      rw [toD]
      exact .lst (SqL.of h) (dps_of hs (by simpa [pl] using e))
    | _ => simp [pl] at e
theorem dps_of : ∀ {n : Nat} {p : List PV} {v : List V}, RepVs K mg N H p v → (∀ x ∈ p, pl n x = true) → DpAll K H v (toDs p)
  | _, _, _, .nil, _ => by rw [toDs]; exact .nil
  | _, _, _, .cons h hs, e => by
    rw [toDs]
    exact .cons (dp_of h (e _ List.mem_cons_self)) (dps_of hs fun x hx => e x (List.mem_cons_of_mem _ hx))
end
theorem dp_c {n : Nat} {p : PV} {v : V} (h : RepC K mg N H p v) (e : pl n p = true) : Dp K H v (toD p) := by
  cases h with
  | val h => exact dp_of h e
  | own h => cases h with
    | mk h sh hs =>
      cases sh with
      | lst =>
        cases n with
        | zero => simp [pl] at e
        | succ n =>
          rw [toD]
          exact .lst (SqL.of h) (dps_of hs (by simpa [pl] using e))
      | _ => cases n <;> simp [pl] at e
mutual
theorem toD_ok : ∀ (n : Nat) (p : PV), pl n p = true → (toD p).canLay0 = true ∧ (toD p).depth ≤ n
  | _, .non, _ => by rw [toD]; exact ⟨rfl, Nat.zero_le _⟩
  | _, .bl _, _ => by rw [toD]; exact ⟨rfl, Nat.zero_le _⟩
  | _, .int _, _ => by rw [toD]; exact ⟨rfl, Nat.zero_le _⟩
  | n, .str x, e => by
    rw [toD]
    refine ⟨?_, Nat.zero_le _⟩
    have e' : x.cps.all (· < 0x110000) = true := by cases n <;> simpa [pl] using e
    rw [PyData.canLay0]
    exact e'
  | n, .fn _, e => by cases n <;> simp [pl] at e
  | n, .scr _, e => by cases n <;> simp [pl] at e
  | n, .dic _, e => by cases n <;> simp [pl] at e
  | 0, .tup _, e => by simp [pl] at e
  | 0, .lst _, e => by simp [pl] at e
  | n + 1, .tup xs, e => by
    obtain ⟨h1, h2⟩ := toDs_ok n xs (by simpa [pl] using e)
    rw [toD]
    exact ⟨by rw [PyData.canLay0]; exact h1, by rw [PyData.depth]; omega⟩
  | n + 1, .lst xs, e => by
    obtain ⟨h1, h2⟩ := toDs_ok n xs (by simpa [pl] using e)
    rw [toD]
    exact ⟨by rw [PyData.canLay0]; exact h1, by rw [PyData.depth]; omega⟩
theorem toDs_ok : ∀ (n : Nat) (p : List PV), (∀ x ∈ p, pl n x = true) → PyData.canLayAll0 (toDs p) = true ∧ PyData.depthAll (toDs p) ≤ n
  | _, [], _ => by rw [toDs]; exact ⟨rfl, Nat.zero_le _⟩
  | n, x :: xs, e => by
    obtain ⟨h1, h2⟩ := toD_ok n x (e _ List.mem_cons_self)
    obtain ⟨h3, h4⟩ := toDs_ok n xs fun y hy => e y (List.mem_cons_of_mem _ hy)
    rw [toDs]
    refine ⟨by rw [PyData.canLayAll0, h1, h3]; rfl, ?_⟩
    rw [PyData.depthAll]
    exact Nat.max_le.mpr ⟨h2, h4⟩
end
theorem shaped_of {n : Nat} {p : PV} (hn : n ≤ 64) (h : pl n p = true) : SeqAt.shaped (toD p) = true := by
  obtain ⟨h1, h2⟩ := toD_ok n p h
  unfold SeqAt.shaped
  rw [h1, decide_eq_true (Nat.le_trans h2 hn)]; rfl
mutual
theorem eqv_toD : ∀ (n m : Nat) (p q : PV), pl n p = true → pl m q = true → PyData.eqv (toD p) (toD q) = eqv p q
  | n, m, .fn _, q, e, _ => by cases n <;> simp [pl] at e
  | n, m, .scr _, q, e, _ => by cases n <;> simp [pl] at e
  | n, m, .dic _, q, e, _ => by cases n <;> simp [pl] at e
  | n, m, .non, q, _, e => by cases q <;> first | (cases m <;> simp [pl] at e; done) | simp [toD, PyData.eqv, eqv]
  | n, m, .bl _, q, _, e => by cases q <;> first | (cases m <;> simp [pl] at e; done) | simp [toD, PyData.eqv, eqv]
  | n, m, .int _, q, _, e => by cases q <;> first | (cases m <;> simp [pl] at e; done) | simp [toD, PyData.eqv, eqv]
  | n, m, .str _, q, _, e => by cases q <;> first | (cases m <;> simp [pl] at e; done) | simp [toD, PyData.eqv, eqv]
  | 0, m, .tup _, q, e, _ => by simp [pl] at e
  | 0, m, .lst _, q, e, _ => by simp [pl] at e
  | n + 1, m, .tup xs, q, e1, e2 => by
    cases q with
    | tup ys =>
      cases m with
      | zero => simp [pl] at e2
      | succ m =>
        rw [toD, toD, PyData.eqv, eqv]
        exact eqvs_toD n m xs ys (by simpa [pl] using e1) (by simpa [pl] using e2)
    | fn _ => cases m <;> simp [pl] at e2
    | scr _ => cases m <;> simp [pl] at e2
    | dic _ => cases m <;> simp [pl] at e2
    | _ => simp [toD, PyData.eqv, eqv]
  | n + 1, m, .lst xs, q, e1, e2 => by
    cases q with
    | lst ys =>
      cases m with
      | zero => simp [pl] at e2
      | succ m =>
        rw [toD, toD, PyData.eqv, eqv]
        exact eqvs_toD n m xs ys (by simpa [pl] using e1) (by simpa [pl] using e2)
    | fn _ => cases m <;> simp [pl] at e2
    | scr _ => cases m <;> simp [pl] at e2
    | dic _ => cases m <;> simp [pl] at e2
    | _ => simp [toD, PyData.eqv, eqv]
theorem eqvs_toD : ∀ (n m : Nat) (p q : List PV), (∀ x ∈ p, pl n x = true) → (∀ x ∈ q, pl m x = true) → PyData.eqvAll (toDs p) (toDs q) = eqvs p q
  | _, _, [], [], _, _ => by simp [toDs, PyData.eqvAll, eqvs]
  | _, _, [], _ :: _, _, _ => by simp [toDs, PyData.eqvAll, eqvs]
  | _, _, _ :: _, [], _, _ => by simp [toDs, PyData.eqvAll, eqvs]
  | n, m, x :: xs, y :: ys, e1, e2 => by
    rw [toDs, toDs, PyData.eqvAll, eqvs, eqv_toD n m x y (e1 _ List.mem_cons_self) (e2 _ List.mem_cons_self), eqvs_toD n m xs ys (fun z hz => e1 z (List.mem_cons_of_mem _ hz)) fun z hz => e2 z (List.mem_cons_of_mem _ hz)]
end
theorem any_toDs {n m : Nat} {x : PV} (hx : pl n x = true) : ∀ (ys : List PV), (∀ y ∈ ys, pl m y = true) → ((toDs ys).any fun z => PyData.eqv z (toD x)) = ys.any fun y => eqv y x
  | [], _ => by simp [toDs]
  | y :: ys, h => by
    rw [toDs, List.any_cons, List.any_cons, eqv_toD m n y x (h y List.mem_cons_self) hx, any_toDs hx ys fun z hz => h z (List.mem_cons_of_mem _ hz)]

/-! ### comparisons: each gives a bool and changes nothing -/
def rB (K : PySem.W.Frag) (mg : MG) (f : PV → PV → Option Bool) : R2 := fun x y H Q => ∃ N p q c, RepC K mg N H p x ∧ RepC K mg N H q y ∧ f p q = some c ∧ Q (.bl c) H
/-- what the operator's rules ask follows from the content -/
theorem op_rB {op : CmpOp} {f : PV → PV → Option Bool} {r : R2} (h : OpR X (compareOp op) r) (i : ∀ N H p q x y c Q, RepC X.K X.mm N H p x → RepC X.K X.mm N H q y → f p q = some c → Q (.bl c) H → r x y H Q) : OpR X (compareOp op) (rB X.K X.mm f) :=
  fun pins s σ H x y v u Q I rx ry ⟨N, p, q, c, h1, h2, h3, h4⟩ => h pins s σ H x y v u Q I rx ry (i N H p q x y c Q h1 h2 h3 h4)
theorem eqV_some {p q : PV} {b : Bool} (h : eqV p q = some b) : pl 20 p = true ∧ pl 20 q = true ∧ b = eqv p q := by
  unfold eqV at h
  split at h
  · rename_i hp
    simp only [Bool.and_eq_true] at hp
    exact ⟨hp.1, hp.2, (Option.some.inj h).symm⟩
  · cases h
theorem op_eqR (hu : X.A.units + 64 < cLine) : OpR X (compareOp .Eq) (rB X.K X.mm eqV) := by
  refine op_rB (op_eqD hu) fun N H p q x y c Q h1 h2 h3 h4 => ?_
  obtain ⟨p1, p2, rfl⟩ := eqV_some h3
  refine ⟨_, _, dp_c h1 p1, dp_c h2 p2, shaped_of (by omega) p1, shaped_of (by omega) p2, ?_⟩
  rw [eqv_toD 20 20 _ _ p1 p2]
  exact h4
theorem op_neR (hu : X.A.units + 64 < cLine) : OpR X (compareOp .NotEq) (rB X.K X.mm fun p q => (eqV p q).map (!·)) := by
  refine op_rB (op_neD hu) fun N H p q x y c Q h1 h2 h3 h4 => ?_
  obtain ⟨b, g3, rfl⟩ := Option.map_eq_some_iff.mp h3
  obtain ⟨p1, p2, rfl⟩ := eqV_some g3
  refine ⟨_, _, dp_c h1 p1, dp_c h2 p2, shaped_of (by omega) p1, shaped_of (by omega) p2, ?_⟩
  rw [eqv_toD 20 20 _ _ p1 p2]
  exact h4
theorem op_ltR : OpR X (compareOp .Lt) (rB X.K X.mm ltV) := by
  refine op_rB (op_lt.or op_lt_str) fun N H p q x y c Q h1 h2 h3 h4 => ?_
  unfold ltV at h3
  split at h3 <;> cases h3
  · obtain rfl := h1.int_; obtain rfl := h2.int_; exact .inl ⟨_, _, rfl, rfl, h4⟩
  · obtain rfl := h1.str_; obtain rfl := h2.str_; exact .inr ⟨_, _, rfl, rfl, h4⟩
theorem op_gtR : OpR X (compareOp .Gt) (rB X.K X.mm gtV) := by
  refine op_rB op_gt fun N H p q x y c Q h1 h2 h3 h4 => ?_
  unfold gtV at h3
  split at h3 <;> cases h3
  obtain rfl := h1.int_; obtain rfl := h2.int_; exact ⟨_, _, rfl, rfl, h4⟩
theorem op_leR : OpR X (compareOp .LtE) (rB X.K X.mm leV) := by
  refine op_rB op_le fun N H p q x y c Q h1 h2 h3 h4 => ?_
  unfold leV at h3
  split at h3 <;> cases h3
  obtain rfl := h1.int_; obtain rfl := h2.int_; exact ⟨_, _, rfl, rfl, h4⟩
theorem op_geR : OpR X (compareOp .GtE) (rB X.K X.mm fun p q => leV q p) := by
  refine op_rB op_ge fun N H p q x y c Q h1 h2 h3 h4 => ?_
  unfold leV at h3
  split at h3 <;> cases h3
  obtain rfl := h1.int_; obtain rfl := h2.int_; exact ⟨_, _, rfl, rfl, h4⟩
/-- in, of tuples -/
def rInT (K : PySem.W.Frag) (neg : Bool) : R2 := fun x y H Q => ∃ d ds, Dp K H x d ∧ Dp K H y (.tuple ds) ∧ SeqAt.shaped d = true ∧ SeqAt.shaped (.tuple ds) = true ∧ Q (.bl (if neg then !ds.any fun z => PyData.eqv z d else ds.any fun z => PyData.eqv z d)) H
theorem room_in {d e : PyData} {A : Around} (h : SeqAt.shaped d = true) (hu : A.units + 65 < cLine) : A.units + 1 + min e.depth d.depth < cLine := by
  have := SeqAt.depth_of_shaped h
  have := Nat.min_le_right e.depth d.depth
  omega
theorem op_inT (hu : X.A.units + 65 < cLine) : OpR X (compareOp .In) (rInT X.K false) := by
  intro pins s σ H x y v u Q I rx ry h
  obtain ⟨d, ds, hd, he, sd, se, q⟩ := h
  obtain ⟨as, r1⟩ := Dp.reads I d x v hd rx
  obtain ⟨bs, r2⟩ := Dp.reads I (.tuple ds) y u he ry
  have c1 := SeqAt.canLay_of_shaped se
  have c2 := SeqAt.canLay_of_shaped sd
  refine SeqAt.in_tuple_reads r2 r1 c1 c2 ?_ ⟨.bl _, H, I, rfl, q⟩
  have := SeqAt.depth_of_shaped sd
  have := Nat.min_le_right (PyData.depthAll ds) d.depth
  omega
theorem op_notInT (hu : X.A.units + 65 < cLine) : OpR X (compareOp .NotIn) (rInT X.K true) := by
  intro pins s σ H x y v u Q I rx ry h
  obtain ⟨d, ds, hd, he, sd, se, q⟩ := h
  obtain ⟨as, r1⟩ := Dp.reads I d x v hd rx
  obtain ⟨bs, r2⟩ := Dp.reads I (.tuple ds) y u he ry
  have c1 := SeqAt.canLay_of_shaped se
  have c2 := SeqAt.canLay_of_shaped sd
  refine SeqAt.notIn_tuple_reads r2 r1 c1 c2 ?_ ⟨.bl _, H, I, rfl, q⟩
  have := SeqAt.depth_of_shaped sd
  have := Nat.min_le_right (PyData.depthAll ds) d.depth
  omega
/-- in, as far as it is served: texts, lists, tuples -/
theorem inV_cases {p q : PV} {b : Bool} (h : inV p q = some b) : (∃ x y, p = .str x ∧ q = .str y ∧ b = !(Builtin.Str.occurrences y x 0 y.length 1).isEmpty) ∨ (∃ xs, (q = .lst xs ∨ q = .tup xs) ∧ pl 20 p = true ∧ (∀ y ∈ xs, pl 20 y = true) ∧ b = inVs p xs) ∨ ∃ es, q = .dic es ∧ dkOk es p = true ∧ b = (look es p).isSome := by
  unfold inV at h
  split at h
  · exact .inl ⟨_, _, rfl, rfl, (Option.some.inj h).symm⟩
  · split at h
    · rename_i hp
      simp only [Bool.and_eq_true, List.all_eq_true] at hp
      exact .inr (.inl ⟨_, .inl rfl, hp.1, hp.2, (Option.some.inj h).symm⟩)
    · cases h
  · split at h
    · rename_i hp
      simp only [Bool.and_eq_true, List.all_eq_true] at hp
      exact .inr (.inl ⟨_, .inr rfl, hp.1, hp.2, (Option.some.inj h).symm⟩)
    · cases h
  · split at h
    · rename_i hp
      exact .inr (.inr ⟨_, rfl, hp, (Option.some.inj h).symm⟩)
    · cases h
  · cases h
def rDIn (K : PySem.W.Frag) (mg : MG) (neg : Bool) : R2 := fun x y H Q => ∃ N N' es k, RepC K mg N H (.dic es) y ∧ RepC K mg N' H k x ∧ dkOk es k = true ∧ Q (.bl (if neg then !(look es k).isSome else (look es k).isSome)) H
theorem op_inDic (hu : X.A.units + 65 < cLine) : OpR X (compareOp .In) (rDIn X.K X.mm false) := by
  intro pins s σ H x y v u Q I rx ry h
  obtain ⟨N, N', es, k, h1, h2, h3, q⟩ := h
  exact dic_in hu I h1 ry h2 rx h3 fun s' I' => ⟨.bl _, H, I', rfl, q⟩
theorem op_notInDic (hu : X.A.units + 65 < cLine) : OpR X (compareOp .NotIn) (rDIn X.K X.mm true) := by
  intro pins s σ H x y v u Q I rx ry h
  obtain ⟨N, N', es, k, h1, h2, h3, q⟩ := h
  exact dic_notIn hu I h1 ry h2 rx h3 fun s' I' => ⟨.bl _, H, I', rfl, q⟩
theorem shaped_lst {xs : List PV} (h : ∀ y ∈ xs, pl 20 y = true) : SeqAt.shaped (.list (toDs xs)) = true ∧ SeqAt.shaped (.tuple (toDs xs)) = true := by
  obtain ⟨h1, h2⟩ := toDs_ok 20 xs h
  unfold SeqAt.shaped
  rw [PyData.canLay0, PyData.canLay0, PyData.depth, PyData.depth, h1, decide_eq_true (by omega)]
  exact ⟨rfl, rfl⟩
theorem op_inR (hu : X.A.units + 65 < cLine) : OpR X (compareOp .In) (rB X.K X.mm inV) := by
  refine op_rB ((op_in_str.or ((op_inD hu).or (op_inT hu))).or (op_inDic hu)) fun N H p q x y c Q h1 h2 h3 h4 => ?_
  rcases inV_cases h3 with ⟨a, b, rfl, rfl, rfl⟩ | ⟨xs, e, p1, p2, rfl⟩ | ⟨es, rfl, hdk, rfl⟩
  · obtain rfl := h1.str_; obtain rfl := h2.str_; exact .inl (.inl ⟨_, _, rfl, rfl, h4⟩)
  · have e1 := any_toDs p1 xs p2
    rcases e with rfl | rfl
    · obtain ⟨a, vs, rfl, ha, hs⟩ := h2.lst_
      refine .inl (.inr (.inl ⟨_, _, dp_c h1 p1, .lst (SqL.of ha) (dps_of hs p2), shaped_of (by omega) p1, (shaped_lst p2).1, ?_⟩))
      rw [e1]; exact h4
    · obtain ⟨a, vs, rfl, ha, hs⟩ := h2.tup_
      refine .inl (.inr (.inr ⟨_, _, dp_c h1 p1, .tup ha (dps_of hs p2), shaped_of (by omega) p1, (shaped_lst p2).2, ?_⟩))
      rw [if_neg Bool.false_ne_true, e1]; exact h4
  · exact .inr ⟨N, N, es, p, h2, h1, hdk, h4⟩
theorem op_notInR (hu : X.A.units + 65 < cLine) : OpR X (compareOp .NotIn) (rB X.K X.mm fun p q => (inV p q).map (!·)) := by
  refine op_rB ((op_notIn_str.or ((op_notInD hu).or (op_notInT hu))).or (op_notInDic hu)) fun N H p q x y c Q h1 h2 h3 h4 => ?_
  obtain ⟨b, g3, rfl⟩ := Option.map_eq_some_iff.mp h3
  rcases inV_cases g3 with ⟨a, b, rfl, rfl, rfl⟩ | ⟨xs, e, p1, p2, rfl⟩ | ⟨es, rfl, hdk, rfl⟩
  · obtain rfl := h1.str_; obtain rfl := h2.str_; exact .inl (.inl ⟨_, _, rfl, rfl, h4⟩)
  · have e1 := any_toDs p1 xs p2
    rcases e with rfl | rfl
    · obtain ⟨a, vs, rfl, ha, hs⟩ := h2.lst_
      refine .inl (.inr (.inl ⟨_, _, dp_c h1 p1, .lst (SqL.of ha) (dps_of hs p2), shaped_of (by omega) p1, (shaped_lst p2).1, ?_⟩))
      rw [e1]; exact h4
    · obtain ⟨a, vs, rfl, ha, hs⟩ := h2.tup_
      refine .inl (.inr (.inr ⟨_, _, dp_c h1 p1, .tup ha (dps_of hs p2), shaped_of (by omega) p1, (shaped_lst p2).2, ?_⟩))
      rw [if_pos rfl, e1]; exact h4
  · exact .inr ⟨N, N, es, p, h2, h1, hdk, h4⟩
/-! ### is -/
theorem RepC.isNon {p : PV} {x : V} (h : RepC K mg N H p x) : decide (x = V.non) = isNonV p := by
  cases h with
  | val h => cases h with
    | obj _ _ sh _ => cases sh <;> rfl
    | _ => rfl
  | own h => cases h with
    | mk _ sh _ => cases sh <;> rfl
theorem RepC.isBl {p : PV} {x : V} {b : Bool} (h : RepC K mg N H p x) : decide (x = V.bl b) = isTV b p := by
  cases h with
  | val h =>
    cases h with
    | bl c => by_cases e : c = b <;> simp [e]
    | obj _ _ sh _ => cases sh <;> rfl
    | _ => rfl
  | own h => cases h with
    | mk _ sh _ => cases sh <;> rfl
theorem RelV.bool_iff {x : V} {v : Value} {b : Bool} (r : RelV x v) : (v == Value.bool b) = decide (x = .bl b) := by
  cases x with
  | bl c =>
    cases (show v = Value.bool c from r)
    by_cases e : c = b
    · subst e; simp
    · simp [e]
  | non => cases (show v = Value.none from r); rfl
  | int _ => obtain ⟨t, rfl⟩ := r; rfl
  | str _ => obtain ⟨t, rfl⟩ := r; rfl
  | byt _ => obtain ⟨t, rfl⟩ := r; rfl
  | flt _ => obtain ⟨t, rfl⟩ := r; rfl
  | ref _ => cases (show v = Value.ref _ from r); rfl
  | ty _ => cases (show v = Value.type _ from r); rfl
/-- is True, is False, of any value -/
theorem is_bool_gen {prog : Program} {w : World} {A : Around} {E : Value → Shared → Prop} {s : Shared} {x : V} {v : Value} {b : Bool} {Q : Value → Shared → Prop} (r : RelV x v) (h : Q (.bool (v == .bool b)) s) : wpAny (model prog w) A (compareOp .Is v (.bool b)) Q E s := by
  cases x with
  | bl c => cases (show v = Value.bool c from r); exact wpAny_pure h
  | non => cases (show v = Value.none from r); exact wpAny_pure h
  | int _ => obtain ⟨t, rfl⟩ := r; exact wpAny_pure h
  | str _ => obtain ⟨t, rfl⟩ := r; exact wpAny_pure h
  | byt _ => obtain ⟨t, rfl⟩ := r; exact wpAny_pure h
  | flt _ => obtain ⟨t, rfl⟩ := r; exact wpAny_pure h
  | ref _ => cases (show v = Value.ref _ from r); exact wpAny_pure h
  | ty _ => cases (show v = Value.type _ from r); exact wpAny_pure h
theorem isnot_bool_gen {prog : Program} {w : World} {A : Around} {E : Value → Shared → Prop} {s : Shared} {x : V} {v : Value} {b : Bool} {Q : Value → Shared → Prop} (r : RelV x v) (h : Q (.bool (!(v == .bool b))) s) : wpAny (model prog w) A (compareOp .IsNot v (.bool b)) Q E s := by
  cases x with
  | bl c => cases (show v = Value.bool c from r); exact wpAny_pure h
  | non => cases (show v = Value.none from r); exact wpAny_pure h
  | int _ => obtain ⟨t, rfl⟩ := r; exact wpAny_pure h
  | str _ => obtain ⟨t, rfl⟩ := r; exact wpAny_pure h
  | byt _ => obtain ⟨t, rfl⟩ := r; exact wpAny_pure h
  | flt _ => obtain ⟨t, rfl⟩ := r; exact wpAny_pure h
  | ref _ => cases (show v = Value.ref _ from r); exact wpAny_pure h
  | ty _ => cases (show v = Value.type _ from r); exact wpAny_pure h
def rIsBA : R2 := fun x y H Q => ∃ b : Bool, y = .bl b ∧ Q (.bl (decide (x = .bl b))) H
def rNotBA : R2 := fun x y H Q => ∃ b : Bool, y = .bl b ∧ Q (.bl (!decide (x = .bl b))) H
theorem op_isBA : OpR X (compareOp .Is) rIsBA := by
  intro pins s σ H x y v u Q I rx ry h
  obtain ⟨b, rfl, q⟩ := h
  cases (show u = Value.bool b from ry)
  exact is_bool_gen rx ⟨.bl _, H, I, by rw [RelV.bool_iff rx]; rfl, q⟩
theorem op_notBA : OpR X (compareOp .IsNot) rNotBA := by
  intro pins s σ H x y v u Q I rx ry h
  obtain ⟨b, rfl, q⟩ := h
  cases (show u = Value.bool b from ry)
  exact isnot_bool_gen rx ⟨.bl _, H, I, by rw [RelV.bool_iff rx]; rfl, q⟩
theorem op_isR : OpR X (compareOp .Is) (rB X.K X.mm (cmpV .Is)) := by
  refine op_rB (op_isN.or op_isBA) fun N H p q x y c Q h1 h2 h3 h4 => ?_
  cases q with
  | non =>
    obtain rfl := h2.non_
    refine .inl ⟨rfl, ?_⟩
    rw [h1.isNon]
    have e : c = isNonV p := (Option.some.inj h3).symm
    subst e; exact h4
  | bl b =>
    obtain rfl := h2.bl_
    refine .inr ⟨b, rfl, ?_⟩
    rw [h1.isBl]
    have e : c = isTV b p := (Option.some.inj h3).symm
    subst e; exact h4
  | _ => simp [cmpV] at h3
theorem op_isNotR : OpR X (compareOp .IsNot) (rB X.K X.mm (cmpV .IsNot)) := by
  refine op_rB (op_notN.or op_notBA) fun N H p q x y c Q h1 h2 h3 h4 => ?_
  cases q with
  | non =>
    obtain rfl := h2.non_
    refine .inl ⟨rfl, ?_⟩
    rw [h1.isNon]
    have e : c = !isNonV p := (Option.some.inj h3).symm
    subst e; exact h4
  | bl b =>
    obtain rfl := h2.bl_
    refine .inr ⟨b, rfl, ?_⟩
    rw [h1.isBl]
    have e : c = !isTV b p := (Option.some.inj h3).symm
    subst e; exact h4
  | _ => simp [cmpV] at h3
/-- every comparison -/
theorem op_cmp (hu : X.A.units + 65 < cLine) (op : CmpOp) : OpR X (compareOp op) (rB X.K X.mm (cmpV op)) := by
  cases op with
  | Eq => exact op_eqR (by omega)
  | NotEq => exact op_neR (by omega)
  | Lt => exact op_ltR
  | LtE => exact op_leR
  | Gt => exact op_gtR
  | GtE => exact op_geR
  | Is => exact op_isR
  | IsNot => exact op_isNotR
  | In => exact op_inR hu
  | NotIn => exact op_notInR hu
theorem bin_cmp {f : PV → PV → Option Bool} : Bin2 K mg (fun x y => (f x y).map fun c => .pv (.bl c)) (rB K mg f) := by
  intro N H p q x y z Q rp rq e k
  obtain ⟨c, e1, rfl⟩ := Option.map_eq_some_iff.mp e
  exact ⟨N, p, q, c, rp, rq, e1, k _ _ (newP (.bl c))⟩
/-- every operator -/
def rBin (K : PySem.W.Frag) : Operator → R2
  | .Add => rAddA K
  | .Sub => rI0 fun i j => .int (i - j)
  | .Mult => rMulA K
  | .FloorDiv => rFd
  | .Mod => rI (fun _ j => j ≠ 0) fun i j => .int (i.fmod j)
  | .Pow => rI CPow fun i j => .int (i ^ j.toNat)
  | _ => fun _ _ _ _ => False
theorem op_bin (op : Operator) : OpR X (binaryOp op) (rBin X.K op) := by
  cases op with
  | Add => exact op_addA
  | Sub => exact op_sub
  | Mult => exact op_mulA
  | FloorDiv => exact op_fdA
  | Mod => exact op_modN
  | Pow => exact op_pow
  | _ => exact fun _ _ _ _ _ _ _ _ _ _ _ _ h => h.elim
theorem bin_bin (op : Operator) : Bin2 K mg (binV op) (rBin K op) := by
  cases op with
  | Add => exact bin_add
  | Sub => exact bin_sub
  | Mult => exact bin_mul
  | FloorDiv => exact bin_fdiv
  | Mod => exact bin_mod
  | Pow => exact bin_pow
  | _ => exact fun _ _ _ _ _ _ _ _ _ _ e _ => by cases e
end
end Pi

/-! Pi, part 6: built-in functions. -/
namespace Pi
open PySem PySem.Spec L2
section
variable {X : Cx} {K : PySem.W.Frag} {mg : MG} {N N' F F' F1 : NA} {H H' H0 H1 H2 : Hp} {ρ ρ' ρ1 ρ2 : Env} {σ : St} {W : WX}
abbrev one (r : List V → Hp → VK → Prop) : V → Hp → VK → Prop := fun x H Q => r [x] H Q
abbrev two (r : List V → Hp → VK → Prop) : R2 := fun x y H Q => r [x, y] H Q
def rLenA (K : PySem.W.Frag) : List V → Hp → VK → Prop := fun xs H Q => (∃ p ys, xs = [.ref p] ∧ (SqL K H p ys ∨ SqT K H p ys) ∧ Q (.int ys.length) H) ∨ ∃ z, xs = [.str z] ∧ z.length ≤ sizeLine ∧ Q (.int z.length) H
theorem call_lenA : CallR X (.builtin "len") (rLenA X.K) := CallR.or call_len_seq call_len_str
theorem un_len : Un1 K mg lenV (one (rLenA K)) := by
  intro N H p x z Q rp e k
  unfold lenV at e
  split at e
  · cases e
    obtain ⟨a, vs, rfl, ha, hs⟩ := rp.lst_
    refine .inl ⟨_, _, rfl, .inl (SqL.of ha), ?_⟩
    rw [← hs.length]
    exact k _ _ (newP (.int _))
  · cases e
    obtain ⟨a, vs, rfl, ha, hs⟩ := rp.tup_
    refine .inl ⟨_, _, rfl, .inr ha, ?_⟩
    rw [← hs.length]
    exact k _ _ (newP (.int _))
  · split at e <;> cases e
    rename_i hz
    obtain rfl := rp.str_
    exact .inr ⟨_, rfl, hz, k _ _ (newP (.int _))⟩
  · cases e
def rAbsA : List V → Hp → VK → Prop := fun xs H Q => ∃ i, xs = [.int i] ∧ Q (.int (if i < 0 then -i else i)) H
theorem un_abs : Un1 K mg absV (one rAbsA) := by
  intro N H p x z Q rp e k
  unfold absV at e
  split at e <;> cases e
  obtain rfl := rp.int_
  exact ⟨_, rfl, k _ _ (newP (.int _))⟩
def rIntA : List V → Hp → VK → Prop := fun xs H Q => (∃ i, xs = [.int i] ∧ Q (.int i) H) ∨ ∃ k, xs = [.bl k] ∧ Q (.int (if k then 1 else 0)) H
theorem un_int : Un1 K mg intV (one rIntA) := by
  intro N H p x z Q rp e k
  unfold intV at e
  split at e <;> cases e
  · obtain rfl := rp.int_; exact .inl ⟨_, rfl, k _ _ (newP (.int _))⟩
  · obtain rfl := rp.bl_; exact .inr ⟨_, rfl, k _ _ (newP (.int _))⟩
def rStrA : List V → Hp → VK → Prop := fun xs H Q => ∃ i, xs = [.int i] ∧ i.natAbs.log2 < 1920 ∧ Q (.str (toString i)) H
theorem un_str : Un1 K mg strV (one rStrA) := by
  intro N H p x z Q rp e k
  unfold strV at e
  split at e
  · split at e <;> cases e
    rename_i hz
    obtain rfl := rp.int_; exact ⟨_, rfl, hz, k _ _ (newP (.str _))⟩
  · cases e
/-! ### sum, max, min, all, any -/
theorem sum_tup {prog : Program} {w : World} {A : Around} {E : Value → Shared → Prop} {s : Shared} {l : Addr} {its : List Value} {ns : List Int} {Q : Value → Shared → Prop} (hh : A.handled = none) (ht : PyProof.Rows.IsTup s.heap l its.toArray) (hi : PyProof.Rows.IntsAre its ns)
    (h : ∀ h' tk t', (∀ b o, s.heap.get? b = some o → h'.get? b = some o) → Q (.int ns.sum t') { s with heap := h', toks := tk }) : wpAny (model prog w) A (call (.builtin "sum") [.ref l]) Q E s := by
  obtain ⟨xs, e⟩ := hi.allInts.items
  have hn : numsOf (intItems xs).toList = ns := by rw [← e]; exact hi.numsOf
  rw [nums_intItems] at hn
  rw [e] at ht
  have hlt : l < s.heap.objs.size := by
    obtain ⟨_, q, _⟩ := ht
    exact Heap.lt_size q
  have ne : l ≠ s.heap.objs.size := Nat.ne_of_lt hlt
  have ht' : s.heap.IsTuple l (intItems xs) := ht
  refine call_sum_walkG (wpAny_pyIter_tuple ht' ?_)
  refine ⟨_, _, _, _, _, _, numAt xs, rfl, Walks.tuple (A := A.in1) hh s.heap.objs.size l ne (intItems xs), ⟨⟨_, Heap.get?_push_size _ rfl, rfl, rfl⟩, ht'.push _⟩, fun b hb => ?_, fun _ _ => intItems_at, fun h' tk t' hk => ?_⟩
  · show b < (s.heap.push _).objs.size
    rw [Heap.size_push]
    rcases List.mem_cons.mp hb with q | hb
    · rw [q]; exact Nat.lt_succ_self _
    · have q : b = l := by simpa using hb
      rw [q]; exact Nat.lt_succ_of_lt hlt
  · have q := h h' tk t' fun b o e => hk b o (fun hb => by
      have q : b = s.heap.objs.size := by simpa using hb
      rw [q] at e
      exact Nat.lt_irrefl _ (Heap.lt_size e)) (Heap.get?_push_of_some _ e)
    have z : preSum (numAt xs) (intItems xs).size = ns.sum := by
      have e2 : (intItems xs).size = xs.size := by simp [intItems]
      rw [e2, preSum_eq, List.take_of_length_le (by simp), hn]
    rw [z]
    exact q
def rSumT (K : PySem.W.Frag) : List V → Hp → VK → Prop := fun vs H Q => ∃ (a : Addr) (ns : List Int), vs = [V.ref a] ∧ SqT K H a (ns.map V.int) ∧ Q (.int ns.sum) H
theorem call_sumT (hc : X.calm = true) : CallR X (.builtin "sum") (rSumT X.K) := by
  intro pins s σ H xs us Q I rx h
  obtain ⟨a, ns, rfl, hT, q⟩ := h
  have e := Vals.ref1 rx
  subst e
  obtain ⟨its, rv, ht, _⟩ := I.tuple hT
  exact sum_tup (I.ok.hd hc) ht rv.ints fun h' tk t' hk => ⟨.int _, H, I.kept hk, ⟨_, rfl⟩, q⟩
def rSumA (K : PySem.W.Frag) : List V → Hp → VK → Prop := fun vs H Q => rSum K vs H Q ∨ rSumT K vs H Q
theorem call_sumA (hc : X.calm = true) : CallR X (.builtin "sum") (rSumA X.K) := CallR.or (cr_sum hc) (call_sumT hc)
theorem un_sum : Un1 K mg sumV (one (rSumA K)) := by
  intro N H p x z Q rp e k
  unfold sumV at e
  obtain ⟨xs, e1, e⟩ := Option.bind_eq_some_iff.mp e
  obtain ⟨ns, e2, rfl⟩ := Option.map_eq_some_iff.mp e
  unfold items at e1
  split at e1 <;> cases e1
  · obtain ⟨a, vs, rfl, ha, hs⟩ := rp.lst_
    rw [hs.ints e2] at ha
    exact .inl ⟨_, _, rfl, SqL.of ha, k _ _ (newP (.int _))⟩
  · obtain ⟨a, vs, rfl, ha, hs⟩ := rp.tup_
    rw [hs.ints e2] at ha
    exact .inr ⟨_, _, rfl, ha, k _ _ (newP (.int _))⟩
theorem maxL_foldl : ∀ (r : List Int) (i m : Int), (m ∈ i :: r → (∀ y ∈ i :: r, y ≤ m) → r.foldl (fun m j => if m < j then j else m) i = m)
  | [], i, m, h, _ => (List.mem_singleton.mp h).symm
  | j :: r, i, m, h, g => by
    rw [List.foldl_cons]
    have h1 := g i List.mem_cons_self
    have h2 := g j (List.mem_cons_of_mem _ List.mem_cons_self)
    refine maxL_foldl r _ m ?_ ?_
    · split
      · rcases List.mem_cons.mp h with e | h
        · exfalso; omega
        · exact h
      · rcases List.mem_cons.mp h with e | h
        · rw [e]; exact List.mem_cons_self
        · rcases List.mem_cons.mp h with e | h
          · have : i = m := by omega
            rw [this]; exact List.mem_cons_self
          · exact List.mem_cons_of_mem _ h
    · intro y hy
      rcases List.mem_cons.mp hy with e | hy
      · rw [e]; split <;> assumption
      · exact g y (List.mem_cons_of_mem _ (List.mem_cons_of_mem _ hy))
theorem minL_foldl : ∀ (r : List Int) (i m : Int), (m ∈ i :: r → (∀ y ∈ i :: r, m ≤ y) → r.foldl (fun m j => if j < m then j else m) i = m)
  | [], i, m, h, _ => (List.mem_singleton.mp h).symm
  | j :: r, i, m, h, g => by
    rw [List.foldl_cons]
    have h1 := g i List.mem_cons_self
    have h2 := g j (List.mem_cons_of_mem _ List.mem_cons_self)
    refine minL_foldl r _ m ?_ ?_
    · split
      · rcases List.mem_cons.mp h with e | h
        · exfalso; omega
        · exact h
      · rcases List.mem_cons.mp h with e | h
        · rw [e]; exact List.mem_cons_self
        · rcases List.mem_cons.mp h with e | h
          · have : i = m := by omega
            rw [this]; exact List.mem_cons_self
          · exact List.mem_cons_of_mem _ h
    · intro y hy
      rcases List.mem_cons.mp hy with e | hy
      · rw [e]; split <;> assumption
      · exact g y (List.mem_cons_of_mem _ (List.mem_cons_of_mem _ hy))
/-! ### of tuples -/
theorem dp_ints : ∀ ns : List Int, DpAll K H (ns.map V.int) (ns.map PyData.int)
  | [] => .nil
  | i :: r => .cons (.int i) (dp_ints r)
theorem alike_intsA (ns : List Int) : PySem.W.AlikeAll (ns.map PyData.int) := by
  refine ⟨fun d hd d' hd' => ?_, fun d hd => ?_⟩
  · obtain ⟨i, _, rfl⟩ := List.mem_map.mp hd
    obtain ⟨j, _, rfl⟩ := List.mem_map.mp hd'
    simp [PySem.W.alike]
  · obtain ⟨i, _, rfl⟩ := List.mem_map.mp hd
    intro e; cases e
theorem max_fold : ∀ (r : List Int) (i : Int), r.foldl (fun m j => if m < j then j else m) i = r.foldl max i
  | [], _ => rfl
  | j :: r, i => by
    rw [List.foldl_cons, List.foldl_cons, max_fold r]
    congr 1
    by_cases h : i < j
    · rw [if_pos h]; omega
    · rw [if_neg h]; omega
theorem min_fold : ∀ (r : List Int) (i : Int), r.foldl (fun m j => if j < m then j else m) i = r.foldl min i
  | [], _ => rfl
  | j :: r, i => by
    rw [List.foldl_cons, List.foldl_cons, min_fold r]
    congr 1
    by_cases h : j < i
    · rw [if_pos h]; omega
    · rw [if_neg h]; omega
def rMaxT (K : PySem.W.Frag) : List V → Hp → VK → Prop := fun vs H Q => ∃ (a : Addr) (i : Int) (r : List Int), vs = [V.ref a] ∧ SqT K H a ((i :: r).map V.int) ∧ Q (.int (r.foldl max i)) H
theorem call_maxT (hc : X.calm = true) (hu : X.A.units + 65 < cLine) : CallR X (.builtin "max") (rMaxT X.K) := by
  intro pins s σ H xs us Q I rx h
  obtain ⟨a, i, r, rfl, hT, q⟩ := h
  have e := Vals.ref1 rx
  subst e
  obtain ⟨its, rv, ⟨o, ho, hc1, n, hd⟩, _⟩ := I.tuple hT
  obtain ⟨as, hr⟩ := Dp.readsAll I ((i :: r).map PyData.int) _ its (dp_ints (i :: r)) rv
  have hdep : PyData.depthAll ((i :: r).map PyData.int) = 0 := PySem.W.depth_ints (i :: r)
  refine PySem.W.max_tuple_data (vs := its.toArray) (x := .int i) (xs := r.map .int) (I.ok.hd hc) ⟨o, ho, hc1, n, hd⟩ (by simpa using hr) (alike_intsA (i :: r)) (by have : PyData.depthAll (.int i :: r.map .int) = 0 := hdep; rw [this]; omega) fun j v h' tk bs _ rd hk => ?_
  rw [PySem.W.maxD_ints] at rd
  cases rd
  exact ⟨.int _, H, I.kept hk, ⟨_, rfl⟩, q⟩
def rMaxA (K : PySem.W.Frag) : List V → Hp → VK → Prop := fun vs H Q => rMax K vs H Q ∨ rMaxT K vs H Q
theorem call_maxA (hc : X.calm = true) (hu : X.A.units + 65 < cLine) : CallR X (.builtin "max") (rMaxA X.K) := CallR.or (cr_max hc) (call_maxT hc hu)
def rMinT (K : PySem.W.Frag) : List V → Hp → VK → Prop := fun vs H Q => ∃ (a : Addr) (i : Int) (r : List Int), vs = [V.ref a] ∧ SqT K H a ((i :: r).map V.int) ∧ Q (.int (r.foldl min i)) H
theorem call_minT (hc : X.calm = true) (hu : X.A.units + 65 < cLine) : CallR X (.builtin "min") (rMinT X.K) := by
  intro pins s σ H xs us Q I rx h
  obtain ⟨a, i, r, rfl, hT, q⟩ := h
  have e := Vals.ref1 rx
  subst e
  obtain ⟨its, rv, ⟨o, ho, hc1, n, hd⟩, _⟩ := I.tuple hT
  obtain ⟨as, hr⟩ := Dp.readsAll I ((i :: r).map PyData.int) _ its (dp_ints (i :: r)) rv
  have hdep : PyData.depthAll ((i :: r).map PyData.int) = 0 := PySem.W.depth_ints (i :: r)
  refine PySem.W.min_tuple_data (vs := its.toArray) (x := .int i) (xs := r.map .int) (I.ok.hd hc) ⟨o, ho, hc1, n, hd⟩ (by simpa using hr) (alike_intsA (i :: r)) (by have : PyData.depthAll (.int i :: r.map .int) = 0 := hdep; rw [this]; omega) fun j v h' tk bs _ rd hk => ?_
  rw [PySem.W.minD_ints] at rd
  cases rd
  exact ⟨.int _, H, I.kept hk, ⟨_, rfl⟩, q⟩
def rMinA (K : PySem.W.Frag) : List V → Hp → VK → Prop := fun vs H Q => rMin K vs H Q ∨ rMinT K vs H Q
theorem call_minA (hc : X.calm = true) (hu : X.A.units + 65 < cLine) : CallR X (.builtin "min") (rMinA X.K) := CallR.or (cr_min hc) (call_minT hc hu)
theorem un_max : Un1 K mg maxV (one (rMaxA K)) := by
  intro N H p x z Q rp e k
  unfold maxV at e
  obtain ⟨xs, e1, e⟩ := Option.bind_eq_some_iff.mp e
  obtain ⟨ns, e2, e⟩ := Option.bind_eq_some_iff.mp e
  obtain ⟨m, e3, rfl⟩ := Option.map_eq_some_iff.mp e
  unfold items at e1
  split at e1 <;> cases e1
  · obtain ⟨a, vs, rfl, ha, hs⟩ := rp.lst_
    rw [hs.ints e2] at ha
    cases ns with
    | nil => cases e3
    | cons i r =>
      refine .inl ⟨_, _, rfl, SqL.of ha, Nat.zero_lt_succ _, fun m' h1 h2 => ?_⟩
      have := maxL_foldl r i m' h1 h2
      simp only [maxL, Option.some.injEq] at e3
      rw [← this, e3]
      exact k _ _ (newP (.int _))
  · obtain ⟨a, vs, rfl, ha, hs⟩ := rp.tup_
    rw [hs.ints e2] at ha
    cases ns with
    | nil => cases e3
    | cons i r =>
      refine .inr ⟨a, i, r, rfl, ha, ?_⟩
      simp only [maxL, Option.some.injEq] at e3
      rw [← max_fold r i, e3]
      exact k _ _ (newP (.int _))
theorem un_min : Un1 K mg minV (one (rMinA K)) := by
  intro N H p x z Q rp e k
  unfold minV at e
  obtain ⟨xs, e1, e⟩ := Option.bind_eq_some_iff.mp e
  obtain ⟨ns, e2, e⟩ := Option.bind_eq_some_iff.mp e
  obtain ⟨m, e3, rfl⟩ := Option.map_eq_some_iff.mp e
  unfold items at e1
  split at e1 <;> cases e1
  · obtain ⟨a, vs, rfl, ha, hs⟩ := rp.lst_
    rw [hs.ints e2] at ha
    cases ns with
    | nil => cases e3
    | cons i r =>
      refine .inl ⟨_, _, rfl, SqL.of ha, Nat.zero_lt_succ _, fun m' h1 h2 => ?_⟩
      have := minL_foldl r i m' h1 h2
      simp only [minL, Option.some.injEq] at e3
      rw [← this, e3]
      exact k _ _ (newP (.int _))
  · obtain ⟨a, vs, rfl, ha, hs⟩ := rp.tup_
    rw [hs.ints e2] at ha
    cases ns with
    | nil => cases e3
    | cons i r =>
      refine .inr ⟨a, i, r, rfl, ha, ?_⟩
      simp only [minL, Option.some.injEq] at e3
      rw [← min_fold r i, e3]
      exact k _ _ (newP (.int _))
theorem un_all : Un1 K mg allV (one (rAll K)) := by
  intro N H p x z Q rp e k
  unfold allV at e
  obtain ⟨xs, e1, e⟩ := Option.bind_eq_some_iff.mp e
  obtain ⟨ns, e2, rfl⟩ := Option.map_eq_some_iff.mp e
  unfold litems at e1
  split at e1 <;> cases e1
  obtain ⟨a, vs, rfl, ha, hs⟩ := rp.lst_
  rw [hs.bls e2] at ha
  exact ⟨_, _, rfl, SqL.of ha, k _ _ (newP (.bl _))⟩
theorem un_any : Un1 K mg anyV (one (rAny K)) := by
  intro N H p x z Q rp e k
  unfold anyV at e
  obtain ⟨xs, e1, e⟩ := Option.bind_eq_some_iff.mp e
  obtain ⟨ns, e2, rfl⟩ := Option.map_eq_some_iff.mp e
  unfold litems at e1
  split at e1 <;> cases e1
  obtain ⟨a, vs, rfl, ha, hs⟩ := rp.lst_
  rw [hs.bls e2] at ha
  exact ⟨_, _, rfl, SqL.of ha, k _ _ (newP (.bl _))⟩
/-! ### tuple, list -/
def rTupA (K : PySem.W.Frag) : List V → Hp → VK → Prop := fun xs H Q => ∃ p ys, xs = [.ref p] ∧ ((SqL K H p ys ∧ ∀ l, H l = none → Q (.ref l) (upd H l (.tup ys))) ∨ (SqT K H p ys ∧ Q (.ref p) H))
theorem un_tuple : Un1 K mg tupleV (one (rTupA K)) := by
  intro N H p x z Q rp e k
  unfold tupleV at e
  split at e <;> cases e
  · obtain ⟨a, vs, rfl, ha, hs⟩ := rp.lst_
    exact ⟨_, _, rfl, .inl ⟨SqL.of ha, fun l hl => k _ _ (newT hl hs)⟩⟩
  · obtain ⟨a, vs, rfl, ha, hs⟩ := rp.tup_
    exact ⟨_, _, rfl, .inr ⟨ha, k _ _ (newP (.tup ha hs))⟩⟩
theorem reps_ints : ∀ ns : List Int, RepVs K mg N H (ns.map PV.int) (ns.map V.int)
  | [] => .nil
  | i :: r => .cons (.int i) (reps_ints r)
def rListA (K : PySem.W.Frag) : List V → Hp → VK → Prop := fun xs H Q => ∃ p ys, xs = [.ref p] ∧ (SqL K H p ys ∨ SqT K H p ys) ∧ ∀ l, H l = none → Q (.ref l) (upd H l (.lst ys))
theorem un_list : Un1 K mg listV (one (rListA K)) := by
  intro N H p x z Q rp e k
  unfold listV at e
  split at e <;> cases e
  · obtain ⟨a, vs, rfl, ha, hs⟩ := rp.lst_
    exact ⟨_, _, rfl, .inl (SqL.of ha), fun l hl => k _ _ (newL hl hs)⟩
  · obtain ⟨a, vs, rfl, ha, hs⟩ := rp.tup_
    exact ⟨_, _, rfl, .inr ha, fun l hl => k _ _ (newL hl hs)⟩
  · obtain ⟨a, rfl, ha⟩ := rp.scr_
    exact ⟨_, _, rfl, .inl ha, fun l hl => k _ _ (newL hl (reps_ints _))⟩
/-! ### max, min of two -/
def rMax2 : List V → Hp → VK → Prop := fun xs H Q => ∃ i j, xs = [.int i, .int j] ∧ Q (.int (if j > i then j else i)) H
def rMin2 : List V → Hp → VK → Prop := fun xs H Q => ∃ i j, xs = [.int i, .int j] ∧ Q (.int (if j < i then j else i)) H
theorem bin_max2 : Bin2 K mg max2V (two rMax2) := by
  intro N H p q x y z Q rp rq e k
  unfold max2V at e
  split at e <;> cases e
  obtain rfl := rp.int_; obtain rfl := rq.int_
  exact ⟨_, _, rfl, k _ _ (newP (.int _))⟩
theorem bin_min2 : Bin2 K mg min2V (two rMin2) := by
  intro N H p q x y z Q rp rq e k
  unfold min2V at e
  split at e <;> cases e
  obtain rfl := rp.int_; obtain rfl := rq.int_
  exact ⟨_, _, rfl, k _ _ (newP (.int _))⟩
/-! ### isinstance -/
def rIsiB (K : PySem.W.Frag) (n : String) : V → Hp → VK → Prop := fun x H Q => ∃ (t : Value) (b : Bool), TyX K H x t ∧ PySem.W.kitOne K t (.type n) = some b ∧ Q (.bl b) H
theorem tyx_lst {a : Addr} {vs : List V} (h : H a = some (.lst vs)) : TyX K H (.ref a) (.type "list") := .base (.lst h)
theorem tyx_tup {a : Addr} {vs : List V} (h : SqT K H a vs) : TyX K H (.ref a) (.type "tuple") := by
  rcases h with (h | ⟨o, h⟩) | ⟨o, its, n, h, c, _⟩
  · exact .base (.tup h)
  · exact .fTuple h
  · exact .kTuple h c
theorem un_isi {n : String} (hn : n = "int" ∨ n = "bool" ∨ n = "str" ∨ n = "tuple" ∨ n = "list") : Un1 K mg (isiV n) (rIsiB K n) := by
  intro N H p x z Q rp e k
  have fin : ∀ {t : String} {b : Bool}, TyX K H x (.type t) → kitB t n = some b → z = .pv (.bl b) → rIsiB K n x H Q := fun {t b} h1 h2 h3 => ⟨.type t, b, h1, kit_ty h2, by subst h3; exact k _ _ (newP (.bl b))⟩
  cases p with
  | non =>
    obtain rfl := rp.non_
    rcases hn with rfl | rfl | rfl | rfl | rfl <;> (simp [isiV] at e; exact fin (t := "NoneType") (.base .non) (by decide +kernel) e.symm)
  | bl c =>
    obtain rfl := rp.bl_
    rcases hn with rfl | rfl | rfl | rfl | rfl <;> (simp [isiV] at e; exact fin (t := "bool") (.base (.bl c)) (by decide +kernel) e.symm)
  | int c =>
    obtain rfl := rp.int_
    rcases hn with rfl | rfl | rfl | rfl | rfl <;> (simp [isiV] at e; exact fin (t := "int") (.base (.int c)) (by decide +kernel) e.symm)
  | str c =>
    obtain rfl := rp.str_
    rcases hn with rfl | rfl | rfl | rfl | rfl <;> (simp [isiV] at e; exact fin (t := "str") (.base (.str c)) (by decide +kernel) e.symm)
  | tup c =>
    obtain ⟨a, vs, rfl, ha, hs⟩ := rp.tup_
    rcases hn with rfl | rfl | rfl | rfl | rfl <;> (simp [isiV] at e; exact fin (t := "tuple") (tyx_tup ha) (by decide +kernel) e.symm)
  | lst c =>
    obtain ⟨a, vs, rfl, ha, hs⟩ := rp.lst_
    rcases hn with rfl | rfl | rfl | rfl | rfl <;> (simp [isiV] at e; exact fin (t := "list") (tyx_lst ha) (by decide +kernel) e.symm)
  | dic c => rcases hn with rfl | rfl | rfl | rfl | rfl <;> simp [isiV] at e
  | fn c => rcases hn with rfl | rfl | rfl | rfl | rfl <;> simp [isiV] at e
  | scr c => rcases hn with rfl | rfl | rfl | rfl | rfl <;> simp [isiV] at e
end
end Pi

/-! Pi, part 6b: sorted, sets, methods of one argument. -/
namespace Pi
open PySem PySem.Spec L2
/-! ### insertion sort is the sort -/
theorem insL_split {α : Type} {le : α → α → Bool} {a : α} : ∀ {l₁ l₂ : List α}, (∀ b ∈ l₁, le a b = false) → (∀ b ∈ l₂, le a b = true) → insL le a (l₁ ++ l₂) = l₁ ++ a :: l₂
  | [], [], _, _ => rfl
  | [], b :: r, _, h => by
    show insL le a (b :: r) = _
    rw [insL, if_pos (h b (by simp))]; rfl
  | b :: r, l₂, h1, h2 => by
    show insL le a (b :: (r ++ l₂)) = _
    rw [insL, if_neg (by rw [h1 b (by simp)]; exact Bool.false_ne_true), insL_split (fun c hc => h1 c (List.mem_cons_of_mem _ hc)) h2]
    rfl
theorem isort_merge {α : Type} {le : α → α → Bool} (tr : ∀ a b c, le a b = true → le b c = true → le a c = true) (tot : ∀ a b, (le a b || le b a) = true) : ∀ l : List α, l.mergeSort le = isort le l
  | [] => by simp [isort]
  | a :: l => by
    obtain ⟨l₁, l₂, h1, h2, h3⟩ := List.mergeSort_cons tr tot a l
    have hp : (l₁ ++ a :: l₂).Pairwise (fun a b => le a b = true) := by rw [← h1]; exact List.pairwise_mergeSort tr tot _
    rw [h1, isort, ← isort_merge tr tot l, h2]
    refine (insL_split (fun b hb => by simpa using h3 b hb) fun b hb => ?_).symm
    have := (List.pairwise_append.mp hp).2.1
    exact (List.pairwise_cons.mp this).1 b hb
theorem dataLe_tr {β : Type} (k : β → PyData) (a b c : β) (h1 : PySem.W.dataLe false k a b = true) (h2 : PySem.W.dataLe false k b c = true) : PySem.W.dataLe false k a c = true := (PySem.W.sortLe_total _ _ _).trans a b c h1 h2
theorem dataLe_tot {β : Type} (k : β → PyData) (a b : β) : (PySem.W.dataLe false k a b || PySem.W.dataLe false k b a) = true := by
  rw [Bool.or_eq_true]
  exact (PySem.W.sortLe_total (PyProof.Rows.listOrd PyProof.Rows.itemOrd) false fun b => PySem.W.keyToks (k b)).total a b
section
variable {X : Cx} {K : PySem.W.Frag} {mg : MG} {N N' F F' F1 : NA} {H H' H0 H1 H2 : Hp} {ρ ρ' ρ1 ρ2 : Env} {σ : St} {W : WX} {pins : List (Addr × Obj)} {s : Shared} {A : Around} {E : Value → Shared → Prop}
theorem PE.or {e : Expr} {t1 t2 : TE} (h1 : PE X e t1) (h2 : PE X e t2) : PE X e (fun σ H Q => t1 σ H Q ∨ t2 σ H Q) := ⟨fun pins s σ H Q I h => h.elim (h1.run pins s σ H Q I) (h2.run pins s σ H Q I)⟩
/-! ### a tuple's items as a new list -/
open PyProof.Rows Calls in
theorem coll_tup {l : Addr} {vs : List Value} {Q : List Value → Shared → Prop} (ht : PyProof.Rows.IsTup s.heap l vs.toArray) (hz : vs.length ≤ sizeLine)
    (h : Q vs { s with heap := (s.heap.push (seqObj "list" #[] 0)).update s.heap.objs.size (Obj.mapSeq (· ++ vs.toArray)) }) : wpAny (model X.prog X.w) A (collect (.ref l)) Q E s := by
  obtain ⟨o, ho, hc, n, hd⟩ := id ht
  unfold collect; refine wpAny_bind (wpAny_runValue (codeAny_builtin entry_proto_collect' ?_))
  show wpAny _ _ (do again (.builtin "list.__iadd__" ⟨[← newList [], .ref l], []⟩)) _ _ s; refine wpAny_bind (wpAny_newList (wpAny_pure ⟨Code.quiet_builtin _ (by decide +kernel), codeAny_builtin entry_list_iadd' ?_⟩))
  show wpAny _ _ (Builtin.List.listExtendWith (.ref s.heap.objs.size) (.ref l) (.ref s.heap.objs.size)) _ _ { s with heap := s.heap.push (seqObj "list" #[] 0) }; unfold Builtin.List.listExtendWith
  have ho1 : (s.heap.push (seqObj "list" #[] 0)).get? l = some o := Heap.get?_push_of_some _ ho
  refine wpAny_bind (wpAny_typeOf (T := "tuple") ⟨o, ho1, hc⟩ ?_)
  have h2 : (Value.type "tuple" == Value.type "tuple") = true := by rfl
  rw [if_pos (by rw [h2]; simp)]; refine wpAny_bind (listItems_at ho1 hd ?_)
  refine wpAny_bind (listItems_at (xs := #[]) (n := 0) (Heap.get?_push_size _ rfl) rfl ?_); rw [if_neg (by simp)]
  refine wpAny_bind (listUpdate_at (xs := #[]) (n := 0) (Heap.get?_push_size _ rfl) rfl ?_ (Nat.zero_le _) (by show (#[] ++ vs.toArray).size ≤ sizeLine + 1; rw [Array.size_append, List.size_toArray]; simp; omega)); refine wpAny_pure ?_
  show wpAny (model X.prog X.w) A (do
      let u ← load s.heap.objs.size
      match u.data with
      | .seq ys _ => pure ys.toList
      | _ => unsupported "internal:collect") Q E { s with heap := (s.heap.push (seqObj "list" #[] 0)).update s.heap.objs.size (Obj.mapSeq (· ++ vs.toArray)) }
  refine wpAny_bind (wpAny_load (get?_update_seq (Heap.get?_push_size _ rfl) _) ?_)
  show wpAny _ _ (pure ((#[] : Array Value) ++ vs.toArray).toList) Q E _
  refine wpAny_pure ?_
  have : ((#[] : Array Value) ++ vs.toArray).toList = vs := by simp
  rw [this]; exact h
open PyProof.Rows Calls PySem.W in
/-- sorted(t) of a tuple -/
theorem sort_tup {l : Addr} {vs : List Value} {β : Type} {bs : List β} {enc : β → PyData} {R : Value → β → Prop} {Q : Value → Shared → Prop} (ht : PyProof.Rows.IsTup s.heap l vs.toArray) (e : EachIs R vs bs) (er : EachIs (fun v b => ∃ as, Reads s.heap v (enc b) as) vs bs) (hal : AllAlike (bs.map enc)) (hk : Sortable (bs.map enc)) (hL : bs.length ≤ sizeLine)
    (hu : ∀ b, b ∈ bs → A.units + 2 + (enc b).depth < cLine) (h : ∀ out, out.length = bs.length → EachIs R out (bs.mergeSort (dataLe false enc)) → Q (.ref (s.heap.objs.size + 1)) { s with heap := sortedAll s.heap vs (List.toArray out) }) :
    wpAny (model X.prog X.w) A (call (.builtin "sorted") [.ref l]) Q E s := by
  have hz : vs.length ≤ sizeLine := by rw [e.length]; exact hL
  have er' : EachIs (fun v b => ∃ as, Reads (sortingHeap (copyHeap s.heap vs) (s.heap.objs.size + 1) vs) v (enc b) as) vs bs := er.mono fun _ _ ⟨as, r⟩ => ⟨as, PyProof.Rows.Reads.keeps (fun _ _ => sorting_copy_old) r⟩
  have S : SortsAt X.prog X.w A.in1.in1 { s with heap := sortingHeap (copyHeap s.heap vs) (s.heap.objs.size + 1) vs } (dataKind (sortingHeap (copyHeap s.heap vs) (s.heap.objs.size + 1) vs) (bs.map enc)) vs :=
    SortsAt.data (s := { s with heap := sortingHeap (copyHeap s.heap vs) (s.heap.objs.size + 1) vs }) (each_map (R := fun v d => ∃ as, Reads (sortingHeap (copyHeap s.heap vs) (s.heap.objs.size + 1) vs) v d as) enc er') hal hk (bound_map hu)
  have fin := h _ (by rw [sortVals_length false rfl]; exact e.length) (sortVals_data false e er' hal)
  refine call_function_entry_kw kind_sorted plain_sorted entry_sorted (args_sorted1 _) ?_; unfold Builtin.«sorted»
  refine wpAny_bind (m := checkCount "sorted" 1 1 _) (wpAny_pure ?_); refine wpAny_bind (coll_tup ht hz ?_); refine wpAny_bind (wpAny_newList ?_ hz)
  have hs1 : ((s.heap.push (seqObj "list" #[] 0)).update s.heap.objs.size (Obj.mapSeq (· ++ vs.toArray))).objs.size = s.heap.objs.size + 1 := by rw [Heap.size_update, size_push']
  show wpAny _ _ _ _ _ { s with heap := copyHeap s.heap vs }; rw [hs1]
  refine wpAny_bind (wpAny_holding (wpAny_call_entry_kw slot_list_sort ⟨_, copyHeap_at s.heap vs, rfl⟩ entry_list_sort ?_ (args_list_sort _)))
  show wpAny (model X.prog X.w) A.in1.in1 (Builtin.«list.sort» ⟨[.ref (s.heap.objs.size + 1)], []⟩) _ _ _
  exact list_sort_vals (s := { s with heap := copyHeap s.heap vs }) (copyHeap_at s.heap vs) S hz ⟨_, rfl, wpAny_pure ⟨_, rfl, fin⟩⟩
/-! ### sorted -/
def rSortA (K : PySem.W.Frag) (mg : MG) : List V → Hp → VK → Prop := fun xs H Q => ∃ x N p z, xs = [x] ∧ RepC K mg N H p x ∧ sortV p = some z ∧ ∀ H' v, NewX K mg N H H' z v → Q v H'
theorem un_sort : Un1 K mg sortV (one (rSortA K mg)) := fun N H p x z Q rp e k => ⟨x, N, p, z, rfl, rp, e, k⟩
theorem sortOk_is {xs : List PV} (h : sortOk xs = true) : (∀ x ∈ xs, pl 20 x = true) ∧ PySem.W.AllAlike (xs.map toD) ∧ PySem.W.Sortable (xs.map toD) := by
  unfold sortOk at h
  simp only [Bool.and_eq_true, Bool.or_eq_true, List.all_eq_true] at h
  obtain ⟨⟨h1, h2⟩, h3⟩ := h
  refine ⟨h1, fun d hd d' hd' => ?_, ?_⟩
  · obtain ⟨x, hx, rfl⟩ := List.mem_map.mp hd
    obtain ⟨y, hy, rfl⟩ := List.mem_map.mp hd'
    exact h2 x hx y hy
  · rcases h3 with h3 | h3
    · refine .inl fun d hd => ?_
      obtain ⟨x, hx, rfl⟩ := List.mem_map.mp hd
      have := h3 x hx
      cases x with
      | tup ys =>
        cases ys with
        | nil => simp [isTupNE] at this
        | cons y ys => exact ⟨toD y, toDs ys, by rw [toD, toDs]⟩
      | _ => simp [isTupNE] at this
    · refine .inr fun d hd => ?_
      obtain ⟨x, hx, rfl⟩ := List.mem_map.mp hd
      have := h3 x hx
      have hp := h1 x hx
      cases x with
      | non => simp [notNT] at this
      | tup _ => simp [notNT] at this
      | dic _ => simp [pl] at hp
      | fn _ => simp [pl] at hp
      | scr _ => simp [pl] at hp
      | bl _ => rw [toD]; exact ⟨(by intro e; cases e), fun _ e => (by cases e)⟩
      | int _ => rw [toD]; exact ⟨(by intro e; cases e), fun _ e => (by cases e)⟩
      | str _ => rw [toD]; exact ⟨(by intro e; cases e), fun _ e => (by cases e)⟩
      | lst _ => rw [toD]; exact ⟨(by intro e; cases e), fun _ e => (by cases e)⟩
theorem each_rep (I : Inv X pins σ H s) : ∀ {ps : List PV} {vs : List V} {its : List Value}, RepVs X.K X.mm N H ps vs → Vals vs its → (∀ x ∈ ps, pl 20 x = true) →
    PySem.W.EachIs (fun (u : Value) (b : PV × V) => RelV b.2 u ∧ RepV X.K X.mm N H b.1 b.2) its (ps.zip vs) ∧ PySem.W.EachIs (fun (u : Value) (b : PV × V) => ∃ as, PySem.Reads s.heap u (toD b.1) as) its (ps.zip vs)
  | _, _, _, .nil, .nil, _ => ⟨.nil, .nil⟩
  | _, _, _, .cons r t, .cons q w, h => by
    obtain ⟨h1, h2⟩ := each_rep I t w fun x hx => h x (List.mem_cons_of_mem _ hx)
    obtain ⟨as, ra⟩ := Dp.reads I _ _ _ (dp_of r (h _ List.mem_cons_self)) q
    exact ⟨.cons ⟨q, r⟩ h1, .cons ⟨as, ra⟩ h2⟩
theorem each_vals : ∀ {out : List Value} {bs : List (PV × V)}, PySem.W.EachIs (fun (u : Value) (b : PV × V) => RelV b.2 u ∧ RepV K mg N H b.1 b.2) out bs → Vals (bs.map (·.2)) out ∧ RepVs K mg N H (bs.map (·.1)) (bs.map (·.2))
  | _, _, .nil => ⟨.nil, .nil⟩
  | _, _, .cons h t => by
    obtain ⟨h1, h2⟩ := each_vals t
    exact ⟨.cons h.1 h1, .cons h.2 h2⟩
theorem zip_fst : ∀ {ps : List PV} {vs : List V}, ps.length = vs.length → (ps.zip vs).map (·.1) = ps
  | [], [], _ => rfl
  | p :: ps, v :: vs, h => by rw [List.zip_cons_cons, List.map_cons, zip_fst (Nat.succ.inj h)]
theorem sort_fst {ps : List PV} {vs : List V} (hl : ps.length = vs.length) : (((ps.zip vs).mergeSort (PySem.W.dataLe false fun b => toD b.1)).map (·.1)) = isort sLe ps := by
  have h := List.map_mergeSort (r := PySem.W.dataLe false fun b : PV × V => toD b.1) (s := sLe) (f := fun b : PV × V => b.1) (l := ps.zip vs) fun a _ b _ => rfl
  rw [h, zip_fst hl]
  exact isort_merge (dataLe_tr toD) (dataLe_tot toD) ps
theorem call_sortA (hc : X.calm = true) (hu : X.A.units + 65 < cLine) : CallR X (.builtin "sorted") (rSortA X.K X.mm) := by
  intro pins s σ H xs us Q I rx h
  obtain ⟨x, N, p, z, rfl, rp, e, k⟩ := h
  unfold sortV at e
  obtain ⟨ps, e1, e⟩ := Option.bind_eq_some_iff.mp e
  split at e
  · rename_i hok
    cases e
    obtain ⟨hp, hal, hk⟩ := sortOk_is hok
    have fin : ∀ (vs : List V) (its : List Value), RepVs X.K X.mm N H ps vs → Vals vs its → vs.length ≤ sizeLine → ∀ out, out.length = (ps.zip vs).length → PySem.W.EachIs (fun (u : Value) (b : PV × V) => RelV b.2 u ∧ RepV X.K X.mm N H b.1 b.2) out ((ps.zip vs).mergeSort (PySem.W.dataLe false fun b => toD b.1)) →
        EP X pins σ Q (.ref (s.heap.objs.size + 1)) { s with heap := PyProof.Rows.sortedAll s.heap its (List.toArray out) } := fun vs its hr hv hz out hl he => by
      obtain ⟨h1, h2⟩ := each_vals he
      rw [sort_fst hr.length] at h2
      obtain ⟨n, hn⟩ := PyProof.Rows.sortedAll_at s.heap its (List.toArray out)
      have hp0 : s.heap.objs.size ≤ s.heap.objs.size + 1 := by omega
      have hlen : (((ps.zip vs).mergeSort (PySem.W.dataLe false fun b => toD b.1)).map (·.2)).length ≤ sizeLine := by
        rw [List.length_map, List.length_mergeSort, List.length_zip, hr.length]; simp; exact hz
      have hfree := I.hok.fresh hp0
      exact ⟨.ref _, upd H (s.heap.objs.size + 1) (.lst (((ps.zip vs).mergeSort (PySem.W.dataLe false fun b => toD b.1)).map (·.2))), I.laid (t' := s.toks) (fun b o => PyProof.Rows.sortedAll_old) hp0 ⟨hlen, out, n, h1, hn⟩, rfl, k _ _ (newL hfree h2)⟩
    have dep : ∀ (vs : List V), ∀ b ∈ ps.zip vs, X.A.units + 2 + (toD b.1).depth < cLine := fun vs b hb => by
      have := (toD_ok 20 b.1 (hp _ (List.of_mem_zip hb).1)).2
      omega
    have mapz : ∀ {vs : List V}, ps.length = vs.length → (ps.zip vs).map (fun b => toD b.1) = ps.map toD := fun {vs} hl => by
      have := congrArg (List.map toD) (zip_fst hl)
      rw [List.map_map] at this
      exact this
    unfold items at e1
    split at e1 <;> cases e1
    · obtain ⟨a, vs, rfl, ha, hs⟩ := rp.lst_
      have eu := Vals.ref1 rx
      subst eu
      obtain ⟨its, rv, pl0, hz⟩ := I.list (SqL.of ha)
      obtain ⟨g1, g2⟩ := each_rep I hs rv hp
      have hzl : (ps.zip vs).length ≤ sizeLine := by rw [List.length_zip, hs.length]; simp; exact hz
      exact PySem.W.sorted_data pl0.isList g1 g2 (by rw [mapz hs.length]; exact hal) (by rw [mapz hs.length]; exact hk) hzl (dep vs) (fin vs its hs rv hz)
    · obtain ⟨a, vs, rfl, ha, hs⟩ := rp.tup_
      have eu := Vals.ref1 rx
      subst eu
      obtain ⟨its, rv, pl0, hz⟩ := I.tuple ha
      obtain ⟨g1, g2⟩ := each_rep I hs rv hp
      have hzl : (ps.zip vs).length ≤ sizeLine := by rw [List.length_zip, hs.length]; simp; exact hz
      exact sort_tup pl0 g1 g2 (by rw [mapz hs.length]; exact hal) (by rw [mapz hs.length]; exact hk) hzl (dep vs) (fin vs its hs rv hz)
  · cases e
end
end Pi

/-! Pi, part 6c: set of a list of ints, sorted. -/
namespace Pi
open PySem PySem.Spec L2 PyProof.Rows
section
variable {P : Program} {w : World} {A : Around} {E : Value → Shared → Prop} {sh : Shared}
theorem call_set_lst {l : Addr} {ys : Array Value} (zs : List Int) {Q : Value → Shared → Prop} (hh : A.handled = none) (hl : sh.heap.IsList l ys) (hit : IntsAre ys.toList zs) (hb : zs.length + 1 < scanBound)
    (h : ∀ (hn' : Heap) (tq cc : Nat), SetR w hn' sh.heap.objs.size (fun j => decide (j ∈ zs)) cc → cc ≤ zs.length → (∀ bb oo, sh.heap.get? bb = some oo → hn'.get? bb = some oo) → Q (.ref sh.heap.objs.size) { sh with heap := hn', toks := tq }) :
    wpAny (model P w) A (call (.type "set") [.ref l]) Q E sh := by
  have gSz : ys.size = zs.length := by
    have qq := IntsAre.length hit
    rw [Array.length_toList] at qq
    exact qq
  obtain ⟨cc, tt, gMro⟩ := F.called_set.mro
  have gMade := F.called_set.made
  have gSub := F.called_set.sub
  refine wpAny_call (codeAny_of_tree ?_); show wpAny _ _ (callAny (.type "set") _) _ _ _
  refine wpAny_pure ⟨Code.quiet_builtin _ (by decide +kernel), codeAny_builtin F.entry_type_call ?_⟩
  rw [Around.under_plain (weight_type_call_type "set" [.ref l] []) rfl]; have g1 := F.called_set.notType
  have g2 := F.called_set.canCreate
  have gCt := F.typeCall_set_1 (.ref l)
  repeat (any_goals first | assumption | wp_step)

  refine codeAny_mono (code_set_led1 (.ref l) (E := E) (Q₁ := fun ob t₁ => ob = .ref sh.heap.objs.size ∧ t₁ = { sh with heap := sh.heap.push { cls := .type "set", dict := none, data := .set #[] 0 (.fresh 0 0 (!w.params.followText "set-order")) } }) ⟨rfl, rfl⟩) fun rr t₁ gr => ?_
  cases rr with
  | error er => exact gr
  | ok fw =>
    cases fw with
    | ret ob =>
      obtain ⟨rfl, rfl⟩ := gr
      have gS : (sh.heap.push { cls := .type "set", dict := none, data := .set #[] 0 (.fresh 0 0 (!w.params.followText "set-order")) }).get? sh.heap.objs.size = some { cls := .type "set", dict := none, data := .set #[] 0 (.fresh 0 0 (!w.params.followText "set-order")) } := Heap.get?_push_size _ rfl
      have gT : Shared.TypeIs { sh with heap := sh.heap.push { cls := .type "set", dict := none, data := .set #[] 0 (.fresh 0 0 (!w.params.followText "set-order")) } } (.ref sh.heap.objs.size) "set" := ⟨_, gS, rfl⟩
      have gLi := F.called_set.init.lookup
      have gBi := F.called_set.init.bind (.ref sh.heap.objs.size)
      repeat (any_goals first | assumption | wp_step)

      refine codeAny_mono (codeAny_call_builtin (R := wants (fun rr t₂ => rr = .none ∧ ∃ hn' tq cc, t₂ = { sh with heap := hn', toks := tq } ∧ SetR w hn' sh.heap.objs.size (fun j => decide (j ∈ zs)) cc ∧ cc ≤ zs.length ∧
          (∀ bb oo, sh.heap.get? bb = some oo → hn'.get? bb = some oo)) E) F.called_set.init.plain F.entry_set_init (check_set_init_1 gT ?_)) fun rr₂ t₂ gr₂ => ?_
      · obtain ⟨ow, gOl, kcl, nq, kdl⟩ := hl
        obtain ⟨qcls, qdict, qdata, qslots⟩ := ow
        simp only at kcl kdl
        subst kcl; subst kdl
        have gOl' : (sh.heap.push { cls := .type "set", dict := none, data := .set #[] 0 (.fresh 0 0 (!w.params.followText "set-order")) }).get? l = some { cls := .type "list", dict := qdict, data := .seq ys nq, slots := qslots } := Heap.get?_push_of_some _ gOl
        have gSls := F.sub_list_set
        have gSlf := F.sub_list_frozenset
        have gNe : (Value.type "list" == Value.type "dict") = false := by decide
        have gL1 : (sh.heap.push { cls := .type "set", dict := none, data := .set #[] 0 (.fresh 0 0 (!w.params.followText "set-order")) }).IsList l ys := ⟨_, gOl', rfl, nq, rfl⟩
        unfold Builtin.«set.__init__» noKeywords Builtin.Frozenset.updateFrom
        generalize gPI : pyIter = PJ
        wp_walk
        subst gPI

        refine wpAny_pyIter_list gL1 ?_
        refine wpAny_bind (wpAny_runValue ?_)
        have gLS : l < sh.heap.objs.size := Heap.lt_size gOl
        have gH3 : A.in1.in1.in1.handled = none := by simp [hh]
        have gZ1 : (sh.heap.push { cls := .type "set", dict := none, data := .set #[] 0 (.fresh 0 0 (!w.params.followText "set-order")) }).objs.size = sh.heap.objs.size + 1 := Heap.size_push ..
        have gNeI : l ≠ (sh.heap.push { cls := .type "set", dict := none, data := .set #[] 0 (.fresh 0 0 (!w.params.followText "set-order")) }).objs.size := by
          rw [Heap.size_push]; exact Nat.ne_of_lt (Nat.lt_succ_of_lt gLS)
        have gSf : sh.heap.objs.size ∉ [(sh.heap.push { cls := .type "set", dict := none, data := .set #[] 0 (.fresh 0 0 (!w.params.followText "set-order")) }).objs.size, l] := by
          rw [Heap.size_push]; simp only [List.mem_cons, List.mem_singleton, List.not_mem_nil, or_false, not_or]
          exact ⟨Nat.ne_of_lt (Nat.lt_succ_self _), Nat.ne_of_gt gLS⟩
        have gVal : ∀ (i : Nat) (v : Value), ys[i]? = some v → ∃ k t, zs[i]? = some k ∧ v = .int k t := fun i v hv => by
          have hi : i < zs.length := by rw [← gSz]; exact (Array.getElem?_eq_some_iff.mp hv).1
          obtain ⟨t, er⟩ := PyProof.Rows.IntsAre.int_at hit i v (by rw [Array.getElem?_toList]; exact hv)
          refine ⟨zs[i], t, List.getElem?_eq_getElem hi, ?_⟩
          rw [er, List.getD_eq_getElem?_getD, List.getElem?_eq_getElem hi] <;> rfl
        refine set_update_ints ((Walks.list gH3 _ l gNeI ys).toS) sh.heap.objs.size
          gSf zs gSz hb gVal (ys.size - 0) 0 _ (by omega) (Nat.zero_le _)
          ⟨⟨_, Heap.get?_push_size _ rfl, rfl, rfl⟩, (gL1.push _)⟩ ?hS0 ?hR
        case hS0 =>
          have gGet : ((sh.heap.push { cls := .type "set", dict := none, data := .set #[] 0 (.fresh 0 0 (!w.params.followText "set-order")) }).push { cls := .type "list_iterator", data := .fields #[.ref l, .int 0 0] }).get? sh.heap.objs.size
              = some { cls := .type "set", dict := none, data := .set #[] 0 (.fresh 0 0 (!w.params.followText "set-order")) } := Heap.get?_push_of_some _ gS
          exact ⟨0, Nat.le_refl 0, setR_new_at gGet⟩
        case hR =>
          intro sh' cc' gm gc' gS'
          obtain ⟨hn', g2, dd', tq', oz'⟩ := sh'
          have eg1 : g2 = sh.gens := gm.gens
          have ed1 : dd' = sh.drawn := gm.drawn
          have eo1 : oz' = sh.os := gm.os
          subst eg1; subst ed1; subst eo1
          show wpAny _ _ _ _ _ _
          refine wpAny_pure ?_
          show wpAny _ _ (ret Value.none) _ _ _
          rw [gSz] at gc'
          refine wpAny_pure ⟨rfl, hn', tq', cc', rfl, gS', gc', fun bb oo er => ?_⟩
          have gb0 : bb < sh.heap.objs.size := Heap.lt_size er
          have gb1 : bb ≠ sh.heap.objs.size := Nat.ne_of_lt gb0
          have gb2 : bb ≠ (sh.heap.push { cls := .type "set", dict := none, data := .set #[] 0 (.fresh 0 0 (!w.params.followText "set-order")) }).objs.size := by
            rw [Heap.size_push]; exact Nat.ne_of_lt (Nat.lt_succ_of_lt gb0)
          exact gm.heap bb oo (by simp only [List.mem_cons, List.mem_singleton, List.not_mem_nil, or_false, not_or]; exact ⟨gb1, gb2⟩) (Heap.get?_push_of_some _ (Heap.get?_push_of_some _ er))

      · cases rr₂ with
        | error er => exact gr₂
        | ok fw₂ =>
          cases fw₂ with
          | ret rr =>
            obtain ⟨rfl, hn', tq, cc', rfl, gS', gc', gk'⟩ := gr₂
            repeat (any_goals first | assumption | wp_step)
            exact h _ _ _ gS' gc' gk'
          | _ => exact gr₂.elim
    | _ => exact gr.elim

end
/-! ### sorted and without doubles -/
theorem insL_mem {a x : Int} : ∀ {l : List Int}, x ∈ insL (fun a b => decide (a ≤ b)) a l ↔ x = a ∨ x ∈ l
  | [] => by simp [insL]
  | b :: r => by
    rw [insL]
    split
    · simp
    · rw [List.mem_cons, insL_mem, List.mem_cons]; constructor <;> (intro h; rcases h with h | h | h <;> simp [h])
theorem isort_mem {x : Int} : ∀ {l : List Int}, x ∈ isort (fun a b => decide (a ≤ b)) l ↔ x ∈ l
  | [] => by simp [isort]
  | a :: r => by rw [isort, insL_mem, isort_mem, List.mem_cons]
theorem insL_le {a : Int} : ∀ {l : List Int}, l.Pairwise (· ≤ ·) → (insL (fun a b => decide (a ≤ b)) a l).Pairwise (· ≤ ·)
  | [], _ => by simp [insL]
  | b :: r, h => by
    rw [insL]
    obtain ⟨h1, h2⟩ := List.pairwise_cons.mp h
    split
    · rename_i c
      simp only [decide_eq_true_eq] at c
      refine List.pairwise_cons.mpr ⟨fun x hx => ?_, h⟩
      rcases List.mem_cons.mp hx with rfl | hx
      · exact c
      · exact Int.le_trans c (h1 x hx)
    · rename_i c
      simp only [decide_eq_true_eq] at c
      refine List.pairwise_cons.mpr ⟨fun x hx => ?_, insL_le h2⟩
      rcases insL_mem.mp hx with rfl | hx
      · omega
      · exact h1 x hx
theorem isort_le : ∀ l : List Int, (isort (fun a b => decide (a ≤ b)) l).Pairwise (· ≤ ·)
  | [] => .nil
  | _ :: r => insL_le (isort_le r)
theorem dedup_mem {x : Int} : ∀ {l : List Int}, x ∈ l.dedup' ↔ x ∈ l
  | [] => by simp [List.dedup']
  | a :: r => by
    rw [List.dedup']
    split
    · rename_i c
      rw [dedup_mem, List.mem_cons]
      refine ⟨.inr, fun h => h.elim (fun h => ?_) id⟩
      rw [h]; simpa using c
    · rw [List.mem_cons, dedup_mem, List.mem_cons]
theorem dedup_lt : ∀ {l : List Int}, l.Pairwise (· ≤ ·) → l.dedup'.Pairwise (· < ·)
  | [], _ => .nil
  | a :: r, h => by
    obtain ⟨h1, h2⟩ := List.pairwise_cons.mp h
    rw [List.dedup']
    split
    · exact dedup_lt h2
    · rename_i c
      refine List.pairwise_cons.mpr ⟨fun x hx => ?_, dedup_lt h2⟩
      have hx' := dedup_mem.mp hx
      have := h1 x hx'
      have ne : a ≠ x := fun e => c (by rw [e]; simpa using hx')
      omega
theorem lt_ext : ∀ {l m : List Int}, l.Pairwise (· < ·) → m.Pairwise (· < ·) → (∀ x, x ∈ l ↔ x ∈ m) → l = m
  | [], [], _, _, _ => rfl
  | [], b :: m, _, _, h => by have := (h b).mpr (by simp); simp at this
  | a :: l, [], _, _, h => by have := (h a).mp (by simp); simp at this
  | a :: l, b :: m, h1, h2, h => by
    obtain ⟨p1, p2⟩ := List.pairwise_cons.mp h1
    obtain ⟨q1, q2⟩ := List.pairwise_cons.mp h2
    have e : a = b := by
      rcases List.mem_cons.mp ((h a).mp (by simp)) with e | e
      · exact e
      · rcases List.mem_cons.mp ((h b).mpr (by simp)) with e2 | e2
        · exact e2.symm
        · have := q1 a e; have := p1 b e2; omega
    subst e
    congr 1
    refine lt_ext p2 q2 fun x => ⟨fun hx => ?_, fun hx => ?_⟩
    · rcases List.mem_cons.mp ((h x).mp (List.mem_cons_of_mem _ hx)) with e | e
      · have := p1 x hx; omega
      · exact e
    · rcases List.mem_cons.mp ((h x).mpr (List.mem_cons_of_mem _ hx)) with e | e
      · have := q1 x hx; omega
      · exact e
section
variable {X : Cx} {K : PySem.W.Frag} {mg : MG} {N : NA} {H H' : Hp} {σ : L2.St} {W : WX}
def rSetI (K : PySem.W.Frag) (w : World) : List V → Hp → VK → Prop := fun xs H Q => ∃ (a : Addr) (ns : List Int), xs = [V.ref a] ∧ SqL K H a (ns.map V.int) ∧ ns.length < 62 ∧ ∀ c p, c ≤ ns.length → H p = none → Q (.ref p) (upd H p (SetO w p (fun j => decide (j ∈ ns)) c))
theorem call_setI (hc : X.calm = true) : CallR X (.type "set") (rSetI X.K X.w) := by
  intro pins s σ H xs us Q I r h
  obtain ⟨a, ns, rfl, hs, hl, q⟩ := h
  have e := Vals.ref1 r
  subst e
  obtain ⟨its, rv, pl, hz⟩ := I.list hs
  refine call_set_lst ns (I.ok.hd hc) pl.isList (by simpa using ints_of_vals rv) (by unfold scanBound; omega) fun h' tk c R hc' hk => ?_
  exact ⟨.ref _, upd H s.heap.objs.size (SetO X.w s.heap.objs.size (fun j => decide (j ∈ ns)) c), I.laid (t' := tk) hk (Nat.le_refl _) (setO_new R), rfl, q c _ hc' (I.hok.fresh (Nat.le_refl _))⟩
def rSortSet (K : PySem.W.Frag) (w : World) : V → Hp → VK → Prop := fun x H Q => rSetI K w [x] H fun y H2 => rSortedSet w [y] H2 Q
theorem un_sortSet : Un1 K mg sortSetV (rSortSet K mg.w) := by
  intro N H p x z Q rp e k
  unfold sortSetV at e
  split at e
  · obtain ⟨ns, e1, e⟩ := Option.bind_eq_some_iff.mp e
    split at e <;> cases e
    rename_i hl
    obtain ⟨a, vs, rfl, ha, hs⟩ := rp.lst_
    rw [hs.ints e1] at ha
    refine ⟨a, ns, rfl, SqL.of ha, hl, fun c p hc hp => ⟨p, _, c, rfl, upd_same, by omega, fun ms q h1 h2 h3 h4 => ?_⟩⟩
    have em : ms = (isort (fun a b => decide (a ≤ b)) ns).dedup' := lt_ext h1 (dedup_lt (isort_le ns)) fun x => by rw [h2 x, dedup_mem, isort_mem]; simp
    have hq : H q = none := by
      by_cases e : q = p
      · rw [e]; exact hp
      · rw [upd_ne e] at h4; exact h4
    have sm : Same H (upd (upd H p (SetO mg.w p (fun j => decide (j ∈ ns)) c)) q (.lst (ms.map V.int))) := fun b u e => by
      rw [upd_ne (ne_of_none e hq), upd_ne (ne_of_none e hp)]; exact e
    refine k _ _ ⟨q, rfl, hq, sm, .mk upd_same .lst ?_⟩
    rw [em]
    exact reps_ints _
  · cases e
end
end Pi

/-! Pi, part 7: compound expressions, tests, argument lists. -/
namespace Pi
open PySem PySem.Spec L2
section
variable {X : Cx} {K : PySem.W.Frag} {mg : MG} {N N' F F' F1 : NA} {H H' H0 H1 H2 : Hp} {ρ ρ' ρ1 ρ2 : Env} {σ : St} {W : WX}
variable {a b c e : Expr} {es : List Expr} {pos : Pos}

/-- a result in hand -/
theorem go_ok {α β : Type} {R : α → Env → Hp → β → Prop} {x : α} {Q : β → Hp → Prop} (h : Go K mg W F ρ σ H R (.ok x ρ1) Q) : ∀ H' v, Fr ρ σ H H' → LeO ρ1 ρ → R x ρ1 H' v → Q v H' := h
theorem tE_ok {x : XV} {Q : VK} {v : V} (h : Go K mg W F ρ σ H (fun x ρ' H' v => RX K mg F ρ' σ H H' x v) (.ok x ρ1) Q) (f : Fr ρ σ H H1) (l : LeO ρ1 ρ) (r : RX K mg F ρ1 σ H H1 x v) : Q v H1 := h H1 v f l r
theorem rx_bl {p : PV} {v : V} {b : Bool} (h : RX K mg F ρ σ H0 H (.pv (.bl b)) v) : v = .bl b := by
  obtain ⟨h, _⟩ := h
  cases h with
  | obj _ _ sh _ => cases sh
  | _ => rfl

theorem res_bd {α β γ : Type} {R : γ → Env → Hp → β → Prop} {o : Option α} {f : α → Env → Out γ} {Q : β → Hp → Prop} (h : Go K mg W F ρ σ H R ((res o ρ1).bd f) Q) : ∃ x, o = some x ∧ Go K mg W F ρ σ H R (f x ρ1) Q := by
  cases o with
  | none => exact h.elim
  | some x => exact ⟨x, rfl, h⟩
/-! ### not, and, or, if -/
theorem pe_notA {da : OP} (ha : PE X a (tO X.K X.mm W da)) : PE X (.UnaryOp .Not a pos) (tE X.K X.mm W (eUn notV da)) := by
  refine PE.imp (pe_not ha) fun σ H Q h => ?_
  have q := un_reads (r := fun x H Q => ∃ c, x = .bl c ∧ Q (.bl (!c)) H) (fun N H p x z Q rp e k => by
    unfold notV at e
    split at e <;> cases e
    obtain rfl := rp.bl_
    exact ⟨_, rfl, k _ _ (newP (.bl _))⟩) h
  exact q
theorem pe_negA {da : OP} (ha : PE X a (tO X.K X.mm W da)) : PE X (.UnaryOp .USub a pos) (tE X.K X.mm W (eUn negV da)) := PE.imp (pe_un un_neg ha) fun _ _ _ h => un_reads un_negA h
theorem pe_binA {op : Operator} {da db : OP} (ha : PE X a (tO X.K X.mm W da)) (hb : PE X b (tO X.K X.mm W db)) : PE X (.BinOp a op b pos) (tE X.K X.mm W (eBin (binV op) da db)) := PE.imp (pe_op (op_bin op) ha hb) fun _ _ _ h => bin_reads (bin_bin op) h
theorem pe_cmpA {op : CmpOp} {da db : OP} (hu : X.A.units + 65 < cLine) (ha : PE X a (tO X.K X.mm W da)) (hb : PE X b (tO X.K X.mm W db)) (hm : behindInMarks op b = false) : PE X (.Compare a [op] [b] pos) (tE X.K X.mm W (eCmp (cmpV op) da db)) :=
  PE.imp (pe_cmpR (op_cmp hu op) ha hb hm) fun _ _ _ h => bin_reads bin_cmp h
theorem pe_ixA {da db : OP} (hu : X.A.units + 65 < cLine) (ha : PE X a (tO X.K X.mm W da)) (hb : PE X b (tO X.K X.mm W db)) (hs : PlainIx b) : PE X (.Subscript a b pos) (tE X.K X.mm W (eBin ixV da db)) := PE.imp (pe_ix (ix_all hu) ha hb hs) fun _ _ _ h => bin_reads bin_ix h
theorem pe_andA {rest : List Expr} {da db : E} (ha : PE X a (tE X.K X.mm W da)) (hb : PE X (.BoolOp .And (b :: rest) pos) (tE X.K X.mm W db)) : PE X (.BoolOp .And (a :: b :: rest) pos) (tE X.K X.mm W (eAnd da db)) := by
  refine PE.imp (pe_and ha hb) fun σ H Q h => ?_
  obtain ⟨F, ρ, re, g⟩ := h
  refine ⟨F, ρ, re, Go.bd g fun x ρ1 H1 v f1 l1 r1 g1 => ?_⟩
  cases x with
  | own o => exact g1.elim
  | pv p =>
    cases p with
    | bl c =>
      obtain rfl := rx_bl (p := .non) r1
      refine ⟨c, rfl, ?_⟩
      cases c with
      | true => exact ⟨F, ρ1, RX.re r1, Go.shX g1 f1 l1 fun _ q => q⟩
      | false => exact g1 H1 _ f1 l1 r1
    | _ => exact g1.elim
theorem pe_orA {rest : List Expr} {da db : E} (ha : PE X a (tE X.K X.mm W da)) (hb : PE X (.BoolOp .Or (b :: rest) pos) (tE X.K X.mm W db)) : PE X (.BoolOp .Or (a :: b :: rest) pos) (tE X.K X.mm W (eOr da db)) := by
  refine PE.imp (pe_or ha hb) fun σ H Q h => ?_
  obtain ⟨F, ρ, re, g⟩ := h
  refine ⟨F, ρ, re, Go.bd g fun x ρ1 H1 v f1 l1 r1 g1 => ?_⟩
  cases x with
  | own o => exact g1.elim
  | pv p =>
    cases p with
    | bl c =>
      obtain rfl := rx_bl (p := .non) r1
      refine ⟨c, rfl, ?_⟩
      cases c with
      | false => exact ⟨F, ρ1, RX.re r1, Go.shX g1 f1 l1 fun _ q => q⟩
      | true => exact g1 H1 _ f1 l1 r1
    | _ => exact g1.elim
theorem pe_ifA {t : T} {da db : E} (hc : PT X c (tT X.K X.mm W t)) (ha : PE X a (tE X.K X.mm W da)) (hb : PE X b (tE X.K X.mm W db)) : PE X (.IfExp c a b pos) (tE X.K X.mm W (eIf t da db)) := by
  refine PE.imp (pe_ifExp hc ha hb) fun σ H Q h => ?_
  obtain ⟨F, ρ, re, g⟩ := h
  refine ⟨F, ρ, re, Go.bd g fun x ρ1 H1 v f1 l1 r1 g1 => ?_⟩
  obtain ⟨rfl, r1⟩ := r1
  cases v with
  | true => exact ⟨F, ρ1, r1, Go.shX g1 f1 l1 fun _ q => q⟩
  | false => exact ⟨F, ρ1, r1, Go.shX g1 f1 l1 fun _ q => q⟩
/-- two comparisons -/
theorem chain_reads {op op' : CmpOp} {da db dc : OP} {Q : VK} (h : tE K mg W (eChain (cmpV op) (cmpV op') da db dc) σ H Q) : tChain (rB K mg (cmpV op)) (rB K mg (cmpV op')) (tO K mg W da) (tO K mg W db) (tO K mg W dc) σ H Q := by
  obtain ⟨F, ρ, re, g⟩ := h
  refine ⟨F, ρ, re, Go.bd g fun ra ρ1 H1 x f1 l1 r1 g1 => ?_⟩
  refine ⟨FR F ra x, ρ1, r1.re', Go.bd2 g1 f1 l1 FR.sub fun rb ρ2 H2 y f2 l2 r2 g2 => ?_⟩
  have f12 := f1.trans l1 f2
  obtain ⟨k, e, g2⟩ := res_bd g2
  obtain ⟨p, e1, e⟩ := Option.bind_eq_some_iff.mp e
  obtain ⟨q, e2, e3⟩ := Option.bind_eq_some_iff.mp e
  have c2 := RR.now r2 e2
  refine ⟨NN F ρ2 σ, p, q, k, r1.content f2 l2 r2.re FR.sub e1, c2.weak fun a z => z.imp (FR.sub a) id, e3, k, rfl, ?_⟩
  cases k with
  | false => exact g2 H2 _ f12 (l2.trans l1) ⟨.bl _, r2.re.less FR.sub⟩
  | true =>
    rw [if_pos rfl] at g2
    refine ⟨FR (FR F ra x) rb y, ρ2, r2.re', Go.bd2 g2 f12 (l2.trans l1) (fun a z => FR.sub a (FR.sub a z)) fun rc ρ3 H3 z f3 l3 r3 g3 => ?_⟩
    obtain ⟨w, e4, g3⟩ := res_go g3
    obtain ⟨p', e5, e4⟩ := Option.bind_eq_some_iff.mp e4
    obtain ⟨q', e6, e7⟩ := Option.bind_eq_some_iff.mp e4
    obtain ⟨c', e8, rfl⟩ := Option.map_eq_some_iff.mp e7
    have c3 := RR.now r3 e6
    refine ⟨NN F ρ3 σ, p', q', c', (r2.content f3 l3 r3.re FR.sub e5).weak fun a z => z.imp (FR.sub a) id, c3.weak fun a z => z.imp (fun z => FR.sub a (FR.sub a z)) id, e8, ?_⟩
    exact g3 H3 _ (f12.trans (l2.trans l1) f3) (l3.trans (l2.trans l1)) ⟨.bl _, r3.re.less fun a z => FR.sub a (FR.sub a z)⟩

theorem pe_chainA {op op' : CmpOp} {da db dc : OP} (hu : X.A.units + 65 < cLine) (ha : PE X a (tO X.K X.mm W da)) (hb : PE X b (tO X.K X.mm W db)) (hc : PE X c (tO X.K X.mm W dc)) (hm : lastMarks [op, op'] [b, c] = false) (h1 : behindInMarks op b = false) (h2 : behindInMarks op' c = false) :
    PE X (.Compare a [op, op'] [b, c] pos) (tE X.K X.mm W (eChain (cmpV op) (cmpV op') da db dc)) := PE.imp (pe_chain (op_cmp hu op) (op_cmp hu op') ha hb hc hm) fun σ H Q h => chain_reads h
/-! ### tests -/
theorem pt_valA {d : E} (h : PE X e (tE X.K X.mm W d)) (he : ∀ whole, isTrue e X.env whole = (do let v ← whole; standAt e.pos; holding [v] (truthy v))) : PT X e (tT X.K X.mm W (tVal d)) := by
  refine PT.imp (pt_val h he) fun σ H Q h => ?_
  obtain ⟨F, ρ, re, g⟩ := h
  refine ⟨F, ρ, re, Go.bd g fun x ρ1 H1 v f1 l1 r1 g1 => ?_⟩
  cases x with
  | own o => exact g1.elim
  | pv p =>
    cases p with
    | bl c =>
      obtain rfl := rx_bl (p := .non) r1
      exact ⟨c, rfl, g1 H1 c f1 l1 ⟨rfl, RX.re r1⟩⟩
    | _ => exact g1.elim
theorem tval_reads {d : E} {Q : Bool → Hp → Prop} (h : tT K mg W (tVal d) σ H Q) : tE K mg W d σ H (fun v H' => ∃ k, v = .bl k ∧ Q k H') := by
  obtain ⟨F, ρ, re, g⟩ := h
  refine ⟨F, ρ, re, Go.bd g fun x ρ1 H1 v f1 l1 r1 g1 => ?_⟩
  cases x with
  | own o => exact g1.elim
  | pv p =>
    cases p with
    | bl c =>
      obtain rfl := rx_bl (p := .non) r1
      exact ⟨c, rfl, g1 H1 c f1 l1 ⟨rfl, RX.re r1⟩⟩
    | _ => exact g1.elim
theorem pt_chainA {op op' : CmpOp} {da db dc : OP} (hu : X.A.units + 65 < cLine) (ha : PE X a (tO X.K X.mm W da)) (hb : PE X b (tO X.K X.mm W db)) (hc : PE X c (tO X.K X.mm W dc)) (hm : lastMarks [op, op'] [b, c] = false) :
    PT X (.Compare a [op, op'] [b, c] pos) (tT X.K X.mm W (tVal (eChain (cmpV op) (cmpV op') da db dc))) := PT.imp (pt_chain (op_cmp hu op) (op_cmp hu op') ha hb hc hm) fun σ H Q h => chain_reads (tval_reads h)
theorem pt_cmpA {op : CmpOp} {da db : OP} (hu : X.A.units + 65 < cLine) (ha : PE X a (tO X.K X.mm W da)) (hb : PE X b (tO X.K X.mm W db)) (hm : behindInMarks op b = false) : PT X (.Compare a [op] [b] pos) (tT X.K X.mm W (tCmp (cmpV op) da db)) := by
  refine PT.imp (pt_cmpR (op_cmp hu op) ha hb hm) fun σ H Q h => ?_
  obtain ⟨F, ρ, re, g⟩ := h
  refine ⟨F, ρ, re, Go.bd g fun ra ρ1 H1 x f1 l1 r1 g1 => ?_⟩
  refine ⟨FR F ra x, ρ1, r1.re', Go.bd2 g1 f1 l1 FR.sub fun rb ρ2 H2 y f2 l2 r2 g2 => ?_⟩
  have f12 := f1.trans l1 f2
  obtain ⟨k, e, g2⟩ := res_go g2
  obtain ⟨p, e1, e⟩ := Option.bind_eq_some_iff.mp e
  obtain ⟨q, e2, e3⟩ := Option.bind_eq_some_iff.mp e
  have c2 := RR.now r2 e2
  refine ⟨NN F ρ2 σ, p, q, k, r1.content f2 l2 r2.re FR.sub e1, c2.weak fun a z => z.imp (FR.sub a) id, e3, k, rfl, ?_⟩
  exact g2 H2 k f12 (l2.trans l1) ⟨rfl, r2.re.less FR.sub⟩
theorem pt_notA {t : T} (h : PT X a (tT X.K X.mm W t)) : PT X (.UnaryOp .Not a pos) (tT X.K X.mm W (Pi.tNot t)) := by
  refine PT.imp (pt_not h) fun σ H Q h => ?_
  obtain ⟨F, ρ, re, g⟩ := h
  refine ⟨F, ρ, re, Go.bd g fun x ρ1 H1 v f1 l1 r1 g1 => ?_⟩
  obtain ⟨rfl, r1⟩ := r1
  exact g1 H1 (!v) f1 l1 ⟨rfl, r1⟩
theorem PW.imp {e : Expr} {t t' : TT} (h : PW X e t) (i : ∀ σ H Q, t' σ H Q → t σ H Q) : PW X e t' := ⟨fun wh pins s σ H Q I q => h.run wh pins s σ H Q I (i σ H Q q)⟩
theorem pw_andA {rest : List Expr} {t u : T} (ha : PT X a (tT X.K X.mm W t)) (hb : PW X (.BoolOp .And (b :: rest) pos) (tT X.K X.mm W u)) : PW X (.BoolOp .And (a :: b :: rest) pos) (tT X.K X.mm W (Pi.tAnd t u)) := by
  refine PW.imp (pw_and ha hb) fun σ H Q h => ?_
  obtain ⟨F, ρ, re, g⟩ := h
  refine ⟨F, ρ, re, Go.bd g fun x ρ1 H1 v f1 l1 r1 g1 => ?_⟩
  obtain ⟨rfl, r1⟩ := r1
  cases v with
  | true => exact ⟨F, ρ1, r1, Go.shT g1 f1 l1 fun _ q => q⟩
  | false => exact g1 H1 false f1 l1 ⟨rfl, r1⟩
theorem pw_orA {rest : List Expr} {t u : T} (ha : PT X a (tT X.K X.mm W t)) (hb : PW X (.BoolOp .Or (b :: rest) pos) (tT X.K X.mm W u)) : PW X (.BoolOp .Or (a :: b :: rest) pos) (tT X.K X.mm W (Pi.tOr t u)) := by
  refine PW.imp (pw_or ha hb) fun σ H Q h => ?_
  obtain ⟨F, ρ, re, g⟩ := h
  refine ⟨F, ρ, re, Go.bd g fun x ρ1 H1 v f1 l1 r1 g1 => ?_⟩
  obtain ⟨rfl, r1⟩ := r1
  cases v with
  | false => exact ⟨F, ρ1, r1, Go.shT g1 f1 l1 fun _ q => q⟩
  | true => exact g1 H1 true f1 l1 ⟨rfl, r1⟩

/-! ### slices -/
def tP (K : PySem.W.Frag) (mg : MG) (W : WX) (d : Pi.PO) : TO := fun σ H Q => ∃ F ρ, RE K mg F ρ σ H ∧ Go K mg W F ρ σ H (fun o ρ' H' (v : Option Int) => v = o ∧ RE K mg F ρ' σ H') (d ρ) Q
theorem PO.imp {e : Option Expr} {t t' : TO} (h : L2.PO X e t) (i : ∀ σ H Q, t' σ H Q → t σ H Q) : L2.PO X e t' := ⟨fun pins s σ H Q I q => h.run pins s σ H Q I (i σ H Q q)⟩
theorem po_noneA : L2.PO X none (tP X.K X.mm W poN) := PO.imp po_none fun σ H Q h => by
  obtain ⟨F, ρ, re, g⟩ := h
  exact g H none (Fr.refl _ _ _) (LeO.refl _) ⟨rfl, re⟩
theorem po_someA {d : OP} (h : PE X e (tO X.K X.mm W d)) : L2.PO X (some e) (tP X.K X.mm W (poI d)) := PO.imp (po_some h) fun σ H Q h => by
  obtain ⟨F, ρ, re, g⟩ := h
  refine ⟨F, ρ, re, Go.bd g fun x ρ1 H1 v f1 l1 r1 g1 => ?_⟩
  cases q : dr ρ1 x with
  | none => rw [q] at g1; exact g1.elim
  | some p =>
    rw [q] at g1
    cases p with
    | int i =>
      obtain rfl := (RR.now r1 q).int_
      exact ⟨i, rfl, g1 H1 (some i) f1 l1 ⟨rfl, r1.re⟩⟩
    | _ => exact g1.elim
theorem pe_slA {lo hi : Option Expr} {da : OP} {dl dh : Pi.PO} {p2 : Pos} (ha : PE X a (tO X.K X.mm W da)) (hl : L2.PO X lo (tP X.K X.mm W dl)) (hh : L2.PO X hi (tP X.K X.mm W dh)) : PE X (.Subscript a (.Slice lo hi none p2) pos) (tE X.K X.mm W (eSl da dl dh)) := by
  refine PE.imp (pe_slice sl_all ha hl hh) fun σ H Q h => ?_
  obtain ⟨F, ρ, re, g⟩ := h
  refine ⟨F, ρ, re, Go.bd g fun ra ρ1 H1 x f1 l1 r1 g1 => ?_⟩
  refine ⟨FR F ra x, ρ1, r1.re', Go.bd2 g1 f1 l1 FR.sub fun l ρ2 H2 lv f2 l2 r2 g2 => ?_⟩
  obtain ⟨rfl, r2⟩ := r2
  have f12 := f1.trans l1 f2
  have l12 := l2.trans l1
  refine ⟨FR F ra x, ρ2, r2, Go.bd2 g2 f12 l12 FR.sub fun h ρ3 H3 hv f3 l3 r3 g3 => ?_⟩
  obtain ⟨rfl, r3⟩ := r3
  obtain ⟨z, e, g3⟩ := res_go g3
  obtain ⟨p, e1, e2⟩ := Option.bind_eq_some_iff.mp e
  have f23 := f2.trans l2 f3
  have f13 := f12.trans l12 f3
  exact sl_val (N := NN F ρ3 σ) (mg := X.mm) (r1.content f23 (l3.trans l2) r3 FR.sub e1) e2 fun H' v n =>
    g3 H' v (f13.trans (l3.trans l12) (Fr.of_same n.same)) (l3.trans l12) (RX.new (r3.less FR.sub) n fun a q => f13.none q)

/-! ### rows of operands -/
/-- what is known of a row of operands: G, all that is to be looked out for -/
def RVl (K : PySem.W.Frag) (mg : MG) (G F : NA) (ρ : Env) (σ : St) (H : Hp) : List RV → List V → Prop
  | [], [] => True
  | .v (.pv p) :: xs, v :: vs => RepV K mg (NN G ρ σ) H p v ∧ RVl K mg G F ρ σ H xs vs
  | .v (.own o) :: xs, v :: vs => (∃ a, v = .ref a ∧ G a ∧ ¬ F a ∧ RepO K mg (NN G ρ σ) H o a ∧ ∀ (j : Nat) o', xs[j]? = some (.v (.own o')) → vs[j]? ≠ some (.ref a)) ∧ RVl K mg G F ρ σ H xs vs
  | .sl i :: xs, v :: vs => σ[i]? = some (some v) ∧ RVl K mg G F ρ σ H xs vs
  | _, _ => False
def RRs (K : PySem.W.Frag) (mg : MG) (F : NA) (ρ : Env) (σ : St) (H0 H : Hp) (rs : List RV) (vs : List V) : Prop := ∃ G : NA, (∀ a, F a → G a) ∧ (∀ a, G a → F a ∨ H0 a = none) ∧ RE K mg G ρ σ H ∧ RVl K mg G F ρ σ H rs vs
def tOs (K : PySem.W.Frag) (mg : MG) (W : WX) (ds : List OP) : TA := fun σ H Q => ∃ F ρ, RE K mg F ρ σ H ∧ Go K mg W F ρ σ H (fun rs ρ' H' vs => RRs K mg F ρ' σ H H' rs vs) (ops ds ρ) Q
/-- less to tell apart of the first row's part -/
theorem RVl.sub {G : NA} (hF : ∀ a, F a → F' a) : ∀ {rs : List RV} {vs : List V}, RVl K mg G F' ρ σ H rs vs → RVl K mg G F ρ σ H rs vs
  | [], [], h => h
  | .v (.pv p) :: xs, v :: vs, h => ⟨h.1, RVl.sub hF h.2⟩
  | .v (.own o) :: xs, v :: vs, ⟨⟨a, e, g, n, r, d⟩, h⟩ => ⟨⟨a, e, g, fun z => n (hF a z), r, d⟩, RVl.sub hF h⟩
  | .sl i :: xs, v :: vs, h => ⟨h.1, RVl.sub hF h.2⟩
theorem RVl.ne {G : NA} {a : Addr} (ha : F a) : ∀ {rs : List RV} {vs : List V}, RVl K mg G F ρ σ H rs vs → ∀ (j : Nat) o', rs[j]? = some (.v (.own o')) → vs[j]? ≠ some (.ref a)
  | [], [], _, j, o', e => by simp at e
  | .v (.pv p) :: xs, v :: vs, h, j, o', e => by
    cases j with
    | zero => simp at e
    | succ j => simpa using RVl.ne ha h.2 j o' (by simpa using e)
  | .v (.own o) :: xs, v :: vs, ⟨⟨b, e1, g, n, r, d⟩, h⟩, j, o', e => by
    cases j with
    | zero =>
      intro z
      subst e1
      simp at z
      exact n (z ▸ ha)
    | succ j => simpa using RVl.ne ha h j o' (by simpa using e)
  | .sl i :: xs, v :: vs, h, j, o', e => by
    cases j with
    | zero => simp at e
    | succ j => simpa using RVl.ne ha h.2 j o' (by simpa using e)
/-- the first operand stays as it is while the others are reckoned -/
theorem RVl.first {G : NA} {r : RV} {v : V} {rs : List RV} {vs : List V} (h : RR K mg F ρ1 σ H0 H1 r v) (f : Fr ρ1 σ H1 H2) (l : LeO ρ2 ρ1) (hG : ∀ a, FR F r v a → G a) (hG2 : ∀ a, G a → FR F r v a ∨ H1 a = none)
    (t : RVl K mg G (FR F r v) ρ2 σ H2 rs vs) : RVl K mg G F ρ2 σ H2 (r :: rs) (v :: vs) := by
  cases r with
  | sl i => exact ⟨h.1, RVl.sub FR.sub t⟩
  | v x =>
    cases x with
    | pv p =>
      refine ⟨h.1.mono (fun _ _ t => f.sqT h.2 t) (fun a ws t m n => ⟨f.keep a _ t m.nt fun q => n (.inr q), fun q => ?_⟩) fun _ _ t => f.scr h.2 t, RVl.sub FR.sub t⟩
      rcases q with q | q
      · rcases hG2 a q with q | q
        · have q' : F a := by cases v <;> exact q
          exact n (.inl q')
        · rw [t] at q; cases q
      · exact n (.inr (q.mono l))
    | own o =>
      obtain ⟨a, rfl, _, nF, nO, q, re⟩ := h
      have hGa : G a := hG a (.inr rfl)
      refine ⟨⟨a, rfl, hGa, nF, ?_, RVl.ne (F := FF F a) (.inr rfl) t⟩, RVl.sub FR.sub t⟩
      cases q with
      | mk e sh hs =>
        refine .mk (f.keep a _ e sh.mut.nt nO) sh (hs.mono (fun _ _ t => f.sqT re t) (fun b ws t m n => ⟨f.keep b _ t m.nt fun q => n (.inr q), fun q => ?_⟩) fun _ _ t => f.scr re t)
        rcases q with q | q
        · rcases hG2 b q with q | q
          · exact n (.inl q)
          · rw [t] at q; cases q
        · exact n (.inr (q.mono l))
theorem starEach_cons {env : PySem.Env} (h : isStar e = false) : starEach (e :: es) env = (false, eval e env) :: starEach es env := by
  cases e <;> first | rfl | (simp [isStar] at h)
theorem pa_ops : ∀ {es : List Expr} {ds : List OP}, Paired (fun e d => isStar e = false ∧ PE X e (tO X.K X.mm W d)) es ds → PA X es (tOs X.K X.mm W ds)
  | [], [], _ => PA.imp pa_nil fun σ H Q h => by
    obtain ⟨F, ρ, re, g⟩ := h
    exact g H [] (Fr.refl _ _ _) (LeO.refl _) ⟨F, fun _ z => z, fun _ z => .inl z, re, trivial⟩
  | e :: es, d :: ds, .cons ⟨hs, he⟩ t => by
    refine PA.imp (pa_cons he (pa_ops t) (starEach_cons hs)) fun σ H Q h => ?_
    obtain ⟨F, ρ, re, g⟩ := h
    refine ⟨F, ρ, re, Go.bd g fun r ρ1 H1 v f1 l1 r1 g1 => ?_⟩
    refine ⟨FR F r v, ρ1, r1.re', Go.bd2 g1 f1 l1 FR.sub fun rs ρ2 H2 vs f2 l2 r2 g2 => ?_⟩
    obtain ⟨G, h1, h2, h3, h4⟩ := r2
    refine g2 H2 _ (f1.trans l1 f2) (l2.trans l1) ⟨G, fun a z => h1 a (FR.sub a z), fun a z => ?_, h3, RVl.first r1 f2 l2 h1 h2 h4⟩
    rcases h2 a z with z | z
    · cases r with
      | sl i => exact .inl z
      | v x =>
        cases x with
        | pv p => exact .inl (by cases v <;> exact z)
        | own o =>
          obtain ⟨b, rfl, h0, _⟩ := r1
          rcases z with z | z
          · exact .inl z
          · exact .inr (by rw [z]; exact h0)
    · exact .inr (f1.none z)
end
end Pi

/-! Pi, part 8: displays, built-in calls. -/
namespace Pi
open PySem PySem.Spec L2
section
variable {X : Cx} {K : PySem.W.Frag} {mg : MG} {N N' F F' F1 G : NA} {H H' H0 H1 H2 : Hp} {ρ ρ' ρ1 ρ2 : Env} {σ : St} {W : WX}
variable {a b c e : Expr} {es : List Expr} {pos p : Pos}

/-! ### rows of values -/
theorem ops_oE : ∀ (ds : List E) (ρ : Env), ops (ds.map oE) ρ = (evs ds ρ).bd fun xs ρ1 => .ok (xs.map RV.v) ρ1
  | [], ρ => rfl
  | d :: ds, ρ => by
    simp only [List.map_cons, ops, evs, oE]
    cases h : d ρ with
    | ok x ρ1 =>
      simp only [Out.bd]
      rw [ops_oE ds ρ1]
      cases h2 : evs ds ρ1 <;> simp
    | exc c fs ρ1 => simp
    | bad => simp
theorem evs_len : ∀ {ds : List E} {ρ ρ1 : Env} {xs : List XV}, evs ds ρ = .ok xs ρ1 → xs.length = ds.length
  | [], ρ, ρ1, xs, h => by simp at h; simp [← h.1]
  | d :: ds, ρ, ρ1, xs, h => by
    simp only [evs] at h
    cases h1 : d ρ with
    | ok x ρ2 =>
      rw [h1] at h
      simp only [Out.bd] at h
      cases h2 : evs ds ρ2 with
      | ok ys ρ3 =>
        rw [h2] at h
        simp at h
        rw [← h.1, List.length_cons, List.length_cons, evs_len h2]
      | exc c fs ρ3 => rw [h2] at h; simp at h
      | bad => rw [h2] at h; simp at h
    | exc c fs ρ3 => rw [h1] at h; simp at h
    | bad => rw [h1] at h; simp at h
/-- the values of a row, when nobody goes on with them -/
theorem RVl.vals (re : RE K mg G ρ σ H) (hF : ∀ a, F a → G a) : ∀ {xs : List XV} {vs : List V}, RVl K mg G F ρ σ H (xs.map RV.v) vs → RepVs K mg (NN F ρ σ) H (xs.map XV.val) vs
  | [], [], _ => .nil
  | .pv p :: xs, v :: vs, h => .cons (h.1.weak fun a z => z.imp (hF a) id) (RVl.vals re hF h.2)
  | .own o :: xs, v :: vs, ⟨⟨a, e, g, n, r, _⟩, h⟩ => by
    refine .cons ?_ (RVl.vals re hF h)
    subst e
    cases r with
    | mk e sh hs => exact .obj e (fun z => z.elim n fun q => re.apart a g q) sh (hs.weak fun a z => z.imp (hF a) id)
theorem evs_reads {γ δ : Type} {R2 : γ → Env → Hp → δ → Prop} {ds : List E} {f : List XV → Env → Out γ} {Q : δ → Hp → Prop} {Q1 : List V → Hp → Prop} (re : RE K mg F ρ σ H) (h : Go K mg W F ρ σ H R2 ((evs ds ρ).bd f) Q)
    (k : ∀ xs ρ1 H1 vs, xs.length = ds.length → Fr ρ σ H H1 → LeO ρ1 ρ → RRs K mg F ρ1 σ H H1 (xs.map RV.v) vs → Go K mg W F ρ σ H R2 (f xs ρ1) Q → Q1 vs H1) : tOs K mg W (ds.map oE) σ H Q1 := by
  refine ⟨F, ρ, re, ?_⟩
  rw [ops_oE]
  cases q : evs ds ρ with
  | ok xs ρ1 =>
    rw [q] at h
    exact fun H1 vs f1 l1 r1 => k xs ρ1 H1 vs (evs_len q) f1 l1 r1 h
  | exc c fs ρ1 => rw [q] at h; exact h
  | bad => rw [q] at h; exact h
theorem paired_oE : ∀ {es : List Expr} {ds : List E}, Paired (fun e d => isStar e = false ∧ PE X e (tE X.K X.mm W d)) es ds → Paired (fun e d => isStar e = false ∧ PE X e (tO X.K X.mm W d)) es (ds.map oE)
  | _, _, .nil => .nil
  | _, _, .cons h t => .cons ⟨h.1, pe_oE h.2⟩ (paired_oE t)
theorem pa_evs {ds : List E} (h : Paired (fun e d => isStar e = false ∧ PE X e (tE X.K X.mm W d)) es ds) : PA X es (tOs X.K X.mm W (ds.map oE)) := pa_ops (paired_oE h)
theorem RRs.vals {xs : List XV} {vs : List V} (h : RRs K mg F ρ σ H0 H (xs.map RV.v) vs) : RepVs K mg (NN F ρ σ) H (xs.map XV.val) vs ∧ RE K mg F ρ σ H := by
  obtain ⟨G, h1, h2, h3, h4⟩ := h
  exact ⟨h4.vals h3 h1, h3.less h1⟩

/-! ### displays -/
theorem pe_tupA {ds : List E} {x1 : Nat} (hl : ds.length ≤ 1000) (h : Paired (fun e d => isStar e = false ∧ PE X e (tE X.K X.mm W d)) es ds) : PE X (.Tuple es x1 pos) (tE X.K X.mm W (eTup ds)) := by
  refine PE.imp (pe_tup (pa_evs h)) fun σ H Q h => ?_
  obtain ⟨F, ρ, re, g⟩ := h
  refine evs_reads re g fun xs ρ1 H1 vs hl1 f1 l1 r1 g1 => ?_
  obtain ⟨r2, r3⟩ := r1.vals
  refine ⟨by have := r2.length; rw [List.length_map] at this; have e : sizeLine = 16777216 := sizeLine_eq; omega, fun p hp => ?_⟩
  have n := newT hp r2
  exact g1 _ _ (f1.trans l1 (Fr.of_same n.same)) l1 (RX.new r3 n fun a q => f1.none q)
theorem pe_lstA {ds : List E} (hl : ds.length ≤ 1000) (h : Paired (fun e d => isStar e = false ∧ PE X e (tE X.K X.mm W d)) es ds) : PE X (.List es pos) (tE X.K X.mm W (eLst ds)) := by
  refine PE.imp (pe_lst (pa_evs h)) fun σ H Q h => ?_
  obtain ⟨F, ρ, re, g⟩ := h
  refine evs_reads re g fun xs ρ1 H1 vs hl1 f1 l1 r1 g1 => ?_
  obtain ⟨r2, r3⟩ := r1.vals
  refine ⟨by have := r2.length; rw [List.length_map] at this; have e : sizeLine = 16777216 := sizeLine_eq; omega, fun p hp => ?_⟩
  have n := newL hp r2
  exact g1 _ _ (f1.trans l1 (Fr.of_same n.same)) l1 (RX.new r3 n fun a q => f1.none q)

/-! ### built-in functions -/
theorem any_star {env : PySem.Env} {pos : Pos} : ∀ {es : List Expr}, es.any isStar = false → (backTo pos (starEach es env)).any (·.1) = false
  | [], _ => rfl
  | e :: es, h => by
    rw [List.any_cons, Bool.or_eq_false_iff] at h
    rw [starEach_cons h.1]
    have := any_star (env := env) (pos := pos) h.2
    unfold backTo at this ⊢
    rw [List.map_cons, List.any_cons, this]
    rfl
theorem pe_bA1 {x : Str} {id : String} {g : PV → Option XV} {da : OP} {r : List V → Hp → VK → Prop} (hc : CallR X (.builtin id) r) (hf : Un1 X.K X.mm g (one r)) (hg : Gl X x) (hm : X.mg x = none) (hv : bootBuiltins x = some (.builtin id)) (hn : x ≠ "__name__") (hdb : (x == ("__debug__" : Str)) = false) (hs : isStar a = false)
    (ha : PE X a (tO X.K X.mm W da)) : PE X (.Call (.Name x p) [a] [] pos) (tE X.K X.mm W (eUn g da)) :=
  PE.imp (pe_callB hc hg hm hv (pa_cons ha pa_nil (starEach_cons hs)) hn hdb (starEach_cons hs) (any_star rfl)) fun σ H Q h => un_reads hf h
theorem pe_tyA1 {x : Str} {T : String} {g : PV → Option XV} {da : OP} {r : List V → Hp → VK → Prop} (hc : CallR X (.type T) r) (hf : Un1 X.K X.mm g (one r)) (hg : Gl X x) (hm : X.mg x = none) (hv : bootBuiltins x = some (.type T)) (hn : x ≠ "__name__") (hdb : (x == ("__debug__" : Str)) = false) (hs : isStar a = false)
    (ha : PE X a (tO X.K X.mm W da)) : PE X (.Call (.Name x p) [a] [] pos) (tE X.K X.mm W (eUn g da)) :=
  PE.imp (pe_callTy hc hg hm hv (pa_cons ha pa_nil (starEach_cons hs)) hn hdb (starEach_cons hs) (any_star rfl)) fun σ H Q h => un_reads hf h
theorem pe_bA2 {x : Str} {id : String} {g : PV → PV → Option XV} {da db : OP} {r : List V → Hp → VK → Prop} (hc : CallR X (.builtin id) r) (hf : Bin2 X.K X.mm g (two r)) (hg : Gl X x) (hm : X.mg x = none) (hv : bootBuiltins x = some (.builtin id)) (hn : x ≠ "__name__") (hdb : (x == ("__debug__" : Str)) = false) (hs : isStar a = false) (hs2 : isStar b = false)
    (ha : PE X a (tO X.K X.mm W da)) (hb : PE X b (tO X.K X.mm W db)) : PE X (.Call (.Name x p) [a, b] [] pos) (tE X.K X.mm W (eBin g da db)) :=
  PE.imp (pe_callB hc hg hm hv (pa_cons ha (pa_cons hb pa_nil (starEach_cons hs2)) (starEach_cons hs)) hn hdb (starEach_cons hs) (any_star (by simp [hs2]))) fun σ H Q h => bin_reads hf h
theorem pe_b1 {x : Str} {g : PV → Option XV} {da : OP} (h : cB1 x = some g) (hu : X.A.units + 65 < cLine) (hcalm : X.calm = true) (hg : Gl X x) (hm : X.mg x = none) (hs : isStar a = false) (ha : PE X a (tO X.K X.mm W da)) : PE X (.Call (.Name x p) [a] [] pos) (tE X.K X.mm W (eUn g da)) := by
  unfold cB1 at h
  by_cases c : (x == ("len" : Str)) = true
  · rw [if_pos c] at h; obtain rfl := eq_of_beq c; cases h
    exact pe_bA1 call_lenA un_len hg hm (by decide +kernel) (by decide) (by decide) hs ha
  rw [if_neg c] at h; clear c
  by_cases c : (x == ("abs" : Str)) = true
  · rw [if_pos c] at h; obtain rfl := eq_of_beq c; cases h
    exact pe_bA1 call_abs un_abs hg hm (by decide +kernel) (by decide) (by decide) hs ha
  rw [if_neg c] at h; clear c
  by_cases c : (x == ("int" : Str)) = true
  · rw [if_pos c] at h; obtain rfl := eq_of_beq c; cases h
    exact pe_tyA1 call_int1 un_int hg hm (by decide +kernel) (by decide) (by decide) hs ha
  rw [if_neg c] at h; clear c
  by_cases c : (x == ("str" : Str)) = true
  · rw [if_pos c] at h; obtain rfl := eq_of_beq c; cases h
    exact pe_tyA1 call_str_int un_str hg hm (by decide +kernel) (by decide) (by decide) hs ha
  rw [if_neg c] at h; clear c
  by_cases c : (x == ("sum" : Str)) = true
  · rw [if_pos c] at h; obtain rfl := eq_of_beq c; cases h
    exact pe_bA1 (call_sumA hcalm) un_sum hg hm (by decide +kernel) (by decide) (by decide) hs ha
  rw [if_neg c] at h; clear c
  by_cases c : (x == ("max" : Str)) = true
  · rw [if_pos c] at h; obtain rfl := eq_of_beq c; cases h
    exact pe_bA1 (call_maxA hcalm hu) un_max hg hm (by decide +kernel) (by decide) (by decide) hs ha
  rw [if_neg c] at h; clear c
  by_cases c : (x == ("min" : Str)) = true
  · rw [if_pos c] at h; obtain rfl := eq_of_beq c; cases h
    exact pe_bA1 (call_minA hcalm hu) un_min hg hm (by decide +kernel) (by decide) (by decide) hs ha
  rw [if_neg c] at h; clear c
  by_cases c : (x == ("all" : Str)) = true
  · rw [if_pos c] at h; obtain rfl := eq_of_beq c; cases h
    exact pe_bA1 (cr_all hcalm) un_all hg hm (by decide +kernel) (by decide) (by decide) hs ha
  rw [if_neg c] at h; clear c
  by_cases c : (x == ("any" : Str)) = true
  · rw [if_pos c] at h; obtain rfl := eq_of_beq c; cases h
    exact pe_bA1 (cr_any hcalm) un_any hg hm (by decide +kernel) (by decide) (by decide) hs ha
  rw [if_neg c] at h; clear c
  by_cases c : (x == ("tuple" : Str)) = true
  · rw [if_pos c] at h; obtain rfl := eq_of_beq c; cases h
    exact pe_tyA1 call_tuple_of un_tuple hg hm (by decide +kernel) (by decide) (by decide) hs ha
  rw [if_neg c] at h; clear c
  by_cases c : (x == ("list" : Str)) = true
  · rw [if_pos c] at h; obtain rfl := eq_of_beq c; cases h
    exact pe_tyA1 call_list_of un_list hg hm (by decide +kernel) (by decide) (by decide) hs ha
  rw [if_neg c] at h; clear c
  by_cases c : (x == ("sorted" : Str)) = true
  · rw [if_pos c] at h; obtain rfl := eq_of_beq c; cases h
    exact pe_bA1 (call_sortA hcalm hu) un_sort hg hm (by decide +kernel) (by decide) (by decide) hs ha
  rw [if_neg c] at h; clear c
  cases h
theorem pe_sortSet {p2 q : Pos} {da : OP} (hc : X.calm = true) (hg : Gl X "sorted") (hm : X.mg "sorted" = none) (hg2 : Gl X "set") (hm2 : X.mg "set" = none) (hs : isStar a = false) (ha : PE X a (tO X.K X.mm W da)) :
    PE X (.Call (.Name "sorted" p) [.Call (.Name "set" p2) [a] [] q] [] pos) (tE X.K X.mm W (eUn sortSetV da)) := by
  have h1 := pe_callTy (p := p2) (pos := q) (call_setI hc) hg2 hm2 (by decide +kernel) (pa_cons ha pa_nil (starEach_cons hs)) (by decide) (by decide) (starEach_cons hs) (any_star rfl)
  refine PE.imp (pe_callB (cr_sortedSet hc) hg hm (by decide +kernel) (pa_cons h1 pa_nil (starEach_cons rfl)) (by decide) (by decide) (starEach_cons rfl) (any_star rfl)) fun σ H Q h => ?_
  exact un_reads (r := rSortSet X.K X.w) un_sortSet h
theorem pe_b2 {x : Str} {g : PV → PV → Option XV} {da db : OP} (h : cB2 x = some g) (hcalm : X.calm = true) (hg : Gl X x) (hm : X.mg x = none) (hs : isStar a = false) (hs2 : isStar b = false) (ha : PE X a (tO X.K X.mm W da)) (hb : PE X b (tO X.K X.mm W db)) : PE X (.Call (.Name x p) [a, b] [] pos) (tE X.K X.mm W (eBin g da db)) := by
  unfold cB2 at h
  split at h
  · rename_i e; obtain rfl := eq_of_beq e; cases h
    exact pe_bA2 (call_max2 hcalm) bin_max2 hg hm (by decide +kernel) (by decide) (by decide) hs hs2 ha hb
  split at h
  · rename_i e; obtain rfl := eq_of_beq e; cases h
    exact pe_bA2 (call_min2 hcalm) bin_min2 hg hm (by decide +kernel) (by decide) (by decide) hs hs2 ha hb
  · cases h
/-- isinstance(a, T) -/
theorem pe_isiA {ty : Str} {n : String} {da : OP} {p2 : Pos} (hn : tyName ty = some n) (hg : Gl X "isinstance") (hm : X.mg "isinstance" = none) (hg2 : Gl X ty) (hm2 : X.mg ty = none) (hs : isStar a = false) (ha : PE X a (tO X.K X.mm W da)) :
    PE X (.Call (.Name "isinstance" p) [a, .Name ty p2] [] pos) (tE X.K X.mm W (eUn (isiV n) da)) := by
  have hty : bootBuiltins ty = some (.type n) ∧ ty ≠ "__name__" ∧ (ty == ("__debug__" : Str)) = false ∧ (n = "int" ∨ n = "bool" ∨ n = "str" ∨ n = "tuple" ∨ n = "list") := by
    unfold tyName at hn
    split at hn
    · rename_i e; obtain rfl := eq_of_beq e; cases hn
      exact ⟨by decide +kernel, by decide, by decide, by simp⟩
    split at hn
    · rename_i e; obtain rfl := eq_of_beq e; cases hn
      exact ⟨by decide +kernel, by decide, by decide, by simp⟩
    split at hn
    · rename_i e; obtain rfl := eq_of_beq e; cases hn
      exact ⟨by decide +kernel, by decide, by decide, by simp⟩
    split at hn
    · rename_i e; obtain rfl := eq_of_beq e; cases hn
      exact ⟨by decide +kernel, by decide, by decide, by simp⟩
    split at hn
    · rename_i e; obtain rfl := eq_of_beq e; cases hn
      exact ⟨by decide +kernel, by decide, by decide, by simp⟩
    · cases hn
  obtain ⟨h1, h2, h3, h4⟩ := hty
  refine PE.imp (pe_callB call_isi hg hm (by decide +kernel) (pa_cons ha (pa_cons (pe_bltn (v := .ty n) hg2 hm2 h1 rfl h2 h3) pa_nil (starEach_cons rfl)) (starEach_cons hs)) (by decide) (by decide) (starEach_cons hs) (any_star rfl)) fun σ H Q h => ?_
  refine (un_reads (r := rIsiB X.K n) (un_isi h4) h : tUn (rIsiB X.K n) (tO X.K X.mm W da) σ H Q) |> fun (z : tUn (rIsiB X.K n) (tO X.K X.mm W da) σ H Q) => ?_
  obtain ⟨F, ρ, re, g⟩ := z
  refine ⟨F, ρ, re, ?_⟩
  cases q : da ρ with
  | ok r ρ1 =>
    rw [q] at g
    intro H' v f l rr
    obtain ⟨t, b, h5, h6, h7⟩ := g H' v f l rr
    exact ⟨v, .ty n, t, .type n, b, rfl, .ty n, h5, h6, h7⟩
  | exc c fs ρ1 => rw [q] at g; exact g
  | bad => rw [q] at g; exact g
end
end Pi

/-! Pi, part 8b: enumerate of a tuple. -/
namespace Pi
open PySem PySem.Spec L2 PyProof.Rows
theorem new_enumT {v : Value} {o : Obj} {B : Heap → Prop} (b : Begins v o B) :
    Meets (Builtin.«enumerate.__new__» ⟨[.type "enumerate", v], []⟩) (fun _ R z => B z.heap ∧
      R (.ok (.ret (.ref (z.heap.push o).objs.size))) { z with heap := (z.heap.push o).push { cls := .type "enumerate", data := .fields #[.none, .bool false, .ref z.heap.objs.size, rawInt 0, .none, .none] } }) :=
  .of_wp fun p wd ar R z hz => by
    obtain ⟨hp, gg, dd, tt, oo⟩ := z
    obtain ⟨hb, hz⟩ := hz
    have sub := sub_enumerate
    have it : ∀ {ar' : Around} {ex : Value → Shared → Prop} {Q : Value → Shared → Prop}, Q (.ref hp.objs.size) ⟨hp.push o, gg, dd, tt, oo⟩ → wpAny (model p wd) ar' (pyIter v) Q ex ⟨hp, gg, dd, tt, oo⟩ := fun q => b.iter p wd _ _ ⟨hp, gg, dd, tt, oo⟩ _ hb q
    wp_walk using it
    refine wpAny_stack_any fun q => wpAny_pure ?_
    split
    · rename_i cc _ _ _ _ _
      cases (cc == Value.type "enumerate")
      · wp_walk using it
        exact ⟨_, rfl, hz⟩
      · wp_walk using it
        exact ⟨_, rfl, hz⟩
    · wp_walk using it
      exact ⟨_, rfl, hz⟩
section
variable {P : Program} {w : World} {A : Around} {E : Value → Shared → Prop} {z : Shared}
theorem call_enumT {l : Addr} {its : Array Value} {Q : Value → Shared → Prop} (hl : z.heap.IsTuple l its)
    (k : ∀ h', IsEnum h' (z.heap.objs.size + 1) z.heap.objs.size 0 .none → h'.IsTupleIter z.heap.objs.size l 0 → h'.objs.size = z.heap.objs.size + 2 → (∀ b o, z.heap.get? b = some o → h'.get? b = some o) → Q (.ref (z.heap.objs.size + 1)) { z with heap := h' }) :
    wpAny (model P w) A (call (.type "enumerate") [.ref l]) Q E z := by
  refine callType_new F.called_enumerate (by decide) (F.typeCall_enumerate_1 _) (F.newCall_enumerate_1 _) (fun ob => F.args_object_init_2 ob _) F.entry_enumerate_new (new_enumT (begins_tuple l its)) ⟨hl, ?_⟩
  have e1 : (z.heap.push { cls := .type "tuple_iterator", data := .fields #[.ref l, .int 0 0] }).objs.size = z.heap.objs.size + 1 := Heap.size_push ..
  show _ ∧ _
  rw [e1]
  have e2 : IsEnum ((z.heap.push { cls := .type "tuple_iterator", data := .fields #[.ref l, .int 0 0] }).push { cls := .type "enumerate", data := .fields #[.none, .bool false, .ref z.heap.objs.size, rawInt 0, .none, .none] }) (z.heap.objs.size + 1) z.heap.objs.size 0 .none := by
    have := Heap.get?_push_size (z.heap.push { cls := .type "tuple_iterator", data := .fields #[.ref l, .int 0 0] }) (o := { cls := .type "enumerate", data := .fields #[.none, .bool false, .ref z.heap.objs.size, rawInt 0, .none, .none] }) rfl
    rw [e1] at this
    exact this
  exact ⟨⟨_, e2, rfl⟩, k _ e2 ⟨_, Heap.get?_push_of_some _ (Heap.get?_push_size _ rfl), rfl, rfl⟩ (by rw [Heap.size_push, e1]) fun b o q => Heap.get?_push_of_some _ (Heap.get?_push_of_some _ q)⟩
end
/-- the tuple at a, each item in a new pair -/
def IteT (K : PySem.W.Frag) (a : Addr) : It :=
  ⟨fun i H => ∃ (xs : List V) (x : V), SqT K H a xs ∧ xs[i]? = some x, fun i H v H' => ∃ T x, v = .ref T ∧ H T = none ∧ H' = upd H T (.tup [.int (i : Nat), x]) ∧ ∀ xs, SqT K H a xs → xs[i]? = some x, fun i H => ∃ xs : List V, SqT K H a xs ∧ xs.length ≤ i⟩
theorem turn_enumT {P : Program} {w : World} {K : PySem.W.Frag} {elts : List Expr} {kk : Nat} {tpos : Pos} (a e it : Addr) :
    Turn P w K (.Tuple elts kk tpos) (IteT K a) [e, it] e (fun i h => (∃ old, IsEnum h e it ((i : Nat) : Int) old) ∧ h.IsTupleIter it a i ∧ e ≠ it) where
  mem := by simp
  obj := fun i h st b hb => by
    obtain ⟨⟨old, q1⟩, ⟨o, q2, q3, q4⟩, _⟩ := st
    rcases (by simpa using hb : b = e ∨ b = it) with rfl | rfl
    · exact ⟨_, q1, fun v q => nomatch q⟩
    · exact ⟨o, q2, fun v q => by rw [q4] at q; cases q⟩
  keep := fun i h h' st k => let ⟨⟨old, q1⟩, q2, q3⟩ := st; ⟨⟨old, k e (by simp) _ q1⟩, q2.at fun o q => k it (by simp) o q, q3⟩
  item := by
    intro X hP hw hK hc i pins s σ H E I hf st hg
    subst hP hw hK
    obtain ⟨⟨old, q1⟩, q2, q3⟩ := st
    obtain ⟨xs, x, hq, hx⟩ := hg
    obtain ⟨its, rv, p, hz⟩ := I.tuple hq
    obtain ⟨u, hu, ru⟩ := rv.get hx
    have hel : e < s.heap.objs.size := Heap.lt_size q1
    have hil : it < s.heap.objs.size := by obtain ⟨_, q, _⟩ := q2; exact Heap.lt_size q
    have nae : a ≠ e := fun z => by
      obtain ⟨o, p1, p2, _⟩ := p
      rw [z, q1] at p1; cases p1
      exact absurd (Value.type.inj p2) (by decide)
    have nai : a ≠ it := fun z => by
      obtain ⟨o, p1, p2, _⟩ := p
      obtain ⟨o2, r1, r2, _⟩ := q2
      rw [z, r1] at p1; cases p1
      rw [r2] at p2
      exact absurd (Value.type.inj p2) (by decide)
    have D := Draws.tuple (prog := X.prog) (w := X.w) (A := X.A.in1) (I.ok.hd hc) it a nai its.toArray
    have hlt : i < its.toArray.size := by
      have := (List.getElem?_eq_some_iff.mp hu).1
      simpa using this
    refine wpAny_pyNext_enum_itemD D q1 ⟨q2, p⟩ hlt q3 (by simp; exact ⟨q3, Ne.symm nae⟩) fun u' h' tk px ho hst hT hsz hk => ?_
    have eu : u' = u := by
      have : its.toArray[i]? = some u' := px
      have h2 : its.toArray[i]? = some u := by simpa using hu
      rw [h2] at this; cases this; rfl
    subst eu
    refine ⟨_, rfl, wpAny_letOwnedTupleGo_enum (s := { s with heap := h', toks := tk + 1 }) ho fun h'' he' sb => ?_⟩
    have hT2 : h''.get? s.heap.objs.size = some { cls := .type "tuple", data := .seq #[.int i tk, u'] } := (sb.2 _ (Nat.ne_of_gt hel)).trans hT
    have nw : ObjOk X.prog X.w (upd H s.heap.objs.size (.tup [.int (i : Nat), x])) h'' s.heap.objs.size (.tup [.int (i : Nat), x]) := ⟨by show 2 ≤ sizeLine; decide, [.int i tk, u'], .cons ⟨_, rfl⟩ (.cons ru .nil), ⟨_, hT2, rfl, _, rfl⟩⟩
    have I1 : Inv X pins σ (upd H s.heap.objs.size (.tup [.int (i : Nat), x])) { s with heap := h'', toks := tk + 1 } :=
      I.turnedNew (ch := [e, it]) (fun b ob hb q => (sb.2 b (fun z => hb (by simp [z]))).trans (hk b ob (fun z => hb (by simp [z])) (fun z => hb (by simp [z])) q)) hf (Nat.le_refl _) nw
    refine ⟨.ref s.heap.objs.size, _, I1, rfl, ⟨_, x, rfl, I.hok.fresh (Nat.le_refl _), rfl, fun ys hy => by rw [I.tuple_inj hy hq]; exact hx⟩, ⟨⟨u', ?_⟩, hst.1.at fun o q => (sb.2 it (Ne.symm q3)).trans q, q3⟩, fun b hb => ?_⟩
    · have e1 : ((i + 1 : Nat) : Int) = (i : Int) + 1 := by omega
      rw [e1]; exact he'
    · have hb' : b < s.heap.objs.size := by rcases (by simpa using hb : b = e ∨ b = it) with rfl | rfl <;> assumption
      rw [upd_ne (Nat.ne_of_lt hb')]
      exact (hf b hb).1
  done := by
    intro X hP hw hK hc i pins s σ H E I hf st hg
    subst hP hw hK
    obtain ⟨⟨old, q1⟩, q2, q3⟩ := st
    obtain ⟨xs, hq, hx⟩ := hg
    obtain ⟨its, rv, p, hz⟩ := I.tuple hq
    have nai : a ≠ it := fun z => by
      obtain ⟨o, p1, p2, _⟩ := p
      obtain ⟨o2, r1, r2, _⟩ := q2
      rw [z, r1] at p1; cases p1
      rw [r2] at p2
      exact absurd (Value.type.inj p2) (by decide)
    have hend : its.toArray[i]? = none := by
      have := rv.length
      simp
      omega
    have D : Draws X.prog X.w X.A.in1 it [it, a] i (fun _ _ => True) (fun j h => (h.IsTupleIter it a j ∧ h.IsTuple a its.toArray) ∧ j = i) := {
      live := fun _ _ st => let ⟨o, ho, _⟩ := st.1.1; ⟨o, ho⟩
      frame := fun _ _ _ st hk => ⟨⟨st.1.1.at fun o e => hk it (by simp) o e, st.1.2.at fun o e => hk a (by simp) o e⟩, st.2⟩
      item := fun j s Q E hj st _ => by have := st.2; omega
      done := fun s Q E st hE => wpAny_nextOf_tuple_end (I.ok.hd hc) st.1.1 st.1.2 hend hE }
    obtain ⟨f0, f1, f2, f3, f4, f5⟩ := hf it (by simp)
    exact wpAny_pyNext_enum_endD D q1 ⟨⟨q2, p⟩, rfl⟩ fun h' eb => ⟨rfl, I.turned (t' := s.toks) (fun b o hb q => eb b o hb q) f0 f1 f3 f4 f5⟩
  self := fun A i s Q E st h => let ⟨⟨_, q1⟩, _⟩ := st; wpAny_pyIter_enum q1 h
def iEnumB (K : PySem.W.Frag) (ta : TA) : TI := fun σ H R => ta σ H fun vs H1 => ∃ a xs, vs = [V.ref a] ∧ ((SqL K H1 a xs ∧ R (Ite K a) H1) ∨ (SqT K H1 a xs ∧ R (IteT K a) H1))
theorem pi_enumB {X : Cx} {e : Expr} {ta : TA} {p pos tpos : Pos} {elts : List Expr} {kk : Nat} (hg : Gl X "enumerate") (hm : X.mg "enumerate" = none) (ha : PA X [e] ta) (hs : starEach [e] X.env = [(false, eval e X.env)]) :
    PI X (.Tuple elts kk tpos) (.Call (.Name "enumerate" p) [e] [] pos) (iEnumB X.K ta) := by
  refine ⟨fun pins s σ H R I h => ?_⟩
  refine Call_ (ld_blt I hg hm boot_enumerate (PyProof.Rows.callWith_type1 (thn (ha.run pos pins s σ H _ I h) fun us z hu => ?_) hs rfl))
  obtain ⟨vs, H1, J, r1, a, xs, ev, q1⟩ := hu
  subst ev
  cases r1 with
  | cons r rr =>
    cases rr
    cases r
    have fresh : ∀ b ∈ [z.heap.objs.size + 1, z.heap.objs.size], FpOk X pins H1 b := fun b hb => by
      have hle : z.heap.objs.size ≤ b := by rcases (by simpa using hb : b = z.heap.objs.size + 1 ∨ b = z.heap.objs.size) with rfl | rfl <;> omega
      exact J.fpOk hle (J.hok.fresh hle)
    rcases q1 with ⟨hq, q⟩ | ⟨hq, q⟩
    · obtain ⟨its, rv, p', hz⟩ := J.list hq
      refine call_enumerate_list p'.isList fun h' he hit hsz hk => wpAny_pyIter_enum he ?_
      exact ⟨z.heap.objs.size + 1, [z.heap.objs.size + 1, z.heap.objs.size], _, _, H1, rfl, J.kept (t' := z.toks) hk, turn_enum a (z.heap.objs.size + 1) z.heap.objs.size, ⟨⟨.none, he⟩, hit, Nat.succ_ne_self _⟩, fresh, q⟩
    · obtain ⟨its, rv, p', hz⟩ := J.tuple hq
      refine call_enumT p' fun h' he hit hsz hk => wpAny_pyIter_enum he ?_
      exact ⟨z.heap.objs.size + 1, [z.heap.objs.size + 1, z.heap.objs.size], _, _, H1, rfl, J.kept (t' := z.toks) hk, turn_enumT a (z.heap.objs.size + 1) z.heap.objs.size, ⟨⟨.none, he⟩, hit, Nat.succ_ne_self _⟩, fresh, q⟩
end Pi

/-! Pi, part 8c: methods of one argument, {}. -/
namespace Pi
open PySem PySem.Spec L2
section
variable {X : Cx} {K : PySem.W.Frag} {mg : MG} {N N' F F' F1 G : NA} {H H' H0 H1 H2 : Hp} {ρ ρ' ρ1 ρ2 : Env} {σ : St} {W : WX}
variable {a b c e : Expr} {es : List Expr} {pos p : Pos}
theorem pe_dic0 : PE X (.Dict [] [] pos) (tE X.K X.mm W eDic0) := PE.imp pe_dnewK fun σ H Q h => by
  obtain ⟨F, ρ, re, g⟩ := h
  intro d hd
  have n : NewX X.K X.mm (NN F ρ σ) H (upd H d (.dK [])) (.own (.dic [])) (.ref d) := ⟨d, rfl, hd, same_upd hd, .mk upd_same (Shp.dK (kvs := []) (xs := [])) .nil⟩
  exact g _ _ (Fr.of_same (same_upd hd)) (LeO.refl _) (RX.new re n fun _ q => q)
/-- a method by the contents -/
def Me2 (K : PySem.W.Frag) (mg : MG) (T : String) (ty : PV → Bool) (f : PV → PV → Option XV) (r : V → List V → Hp → VK → Prop) : Prop :=
  (∀ N H p x, RepC K mg N H p x → ty p = true → tyV K T x H) ∧ ∀ N H p q x y z Q, RepC K mg N H p x → RepC K mg N H q y → f p q = some z → (∀ H' v, NewX K mg N H H' z v → Q v H') → r x [y] H Q
theorem me_reads {T : String} {ty : PV → Bool} {f : PV → PV → Option XV} {r : V → List V → Hp → VK → Prop} {da db : OP} {Q : VK} (hf : Me2 K mg T ty f r) (h : tE K mg W (eMe ty f da db) σ H Q) : tBM K T r (tO K mg W da) (tOs K mg W [db]) σ H Q := by
  obtain ⟨F, ρ, re, g⟩ := h
  refine ⟨F, ρ, re, Go.bd g fun ra ρ1 H1 x f1 l1 r1 g1 => ?_⟩
  split at g1
  · rename_i hty
    obtain ⟨p0, e0, e1⟩ := Option.map_eq_some_iff.mp hty
    refine ⟨hf.1 _ H1 p0 x (r1.now e0) e1, FR F ra x, ρ1, r1.re', ?_⟩
    have e2 : ops [db] ρ1 = (db ρ1).bd fun q ρ2 => .ok [q] ρ2 := by
      simp only [ops]
      cases db ρ1 <;> rfl
    rw [e2]
    cases q : db ρ1 with
    | bad => rw [q] at g1; exact g1.elim
    | exc c fs ρ2 =>
      rw [q] at g1
      exact fun H' cls d f2 l2 r2 xx => g1 H' cls d (f1.trans l1 f2) (l2.trans l1) (r2.less FR.sub) xx
    | ok rb ρ2 =>
    rw [q] at g1
    simp only [Out.bd] at g1 ⊢
    intro H2 vs f2 l2 r2
    obtain ⟨G, hF, hG, re2, rv⟩ := r2
    have f12 := f1.trans l1 f2
    obtain ⟨z, e, g2⟩ := res_go g1
    obtain ⟨p, e3, e⟩ := Option.bind_eq_some_iff.mp e
    obtain ⟨w, e4, e5⟩ := Option.bind_eq_some_iff.mp e
    have re3 : RE K mg F ρ2 σ H2 := re2.less fun z q => hF z (FR.sub z q)
    have c1 : RepC K mg (NN F ρ2 σ) H2 p x := r1.content f2 l2 re3 (fun _ z => z) e3
    have c2 : ∃ y, vs = [y] ∧ RepC K mg (NN F ρ2 σ) H2 w y := by
      match vs, rb, rv with
      | [y], .v (.pv pp), rv =>
        simp only [dr, Option.some.injEq, XV.val] at e4
        subst e4
        exact ⟨y, rfl, .val (rv.1.weak fun z q => q.imp (fun q => hF z (FR.sub z q)) id)⟩
      | [y], .v (.own oo), rv =>
        simp only [dr, Option.some.injEq, XV.val] at e4
        subst e4
        obtain ⟨⟨l, rfl, g3, n3, r3, _⟩, _⟩ := rv
        exact ⟨_, rfl, .own (r3.weak fun z q => q.imp (fun q => hF z (FR.sub z q)) id)⟩
      | [y], .sl i, rv =>
        refine ⟨y, rfl, ?_⟩
        have hs := rv.1
        simp only [dr] at e4
        split at e4
        · rename_i xx hx
          cases e4
          cases xx with
          | pv v =>
            obtain ⟨x', k1, k2⟩ := re3.pv i v hx
            rw [hs] at k1; cases k1
            exact .val k2
          | own o =>
            obtain ⟨l, k1, k2⟩ := re3.own i o hx
            rw [hs] at k1; cases k1
            exact .own k2
        · cases e4
      | [], .v (.pv _), rv => exact rv.elim
      | [], .v (.own _), rv => exact rv.elim
      | [], .sl _, rv => exact rv.elim
      | _ :: _ :: _, .v (.pv _), rv => exact rv.2.elim
      | _ :: _ :: _, .v (.own _), rv => exact rv.2.elim
      | _ :: _ :: _, .sl _, rv => exact rv.2.elim
    obtain ⟨y, rfl, c2⟩ := c2
    exact hf.2 (NN F ρ2 σ) H2 p w x y z Q c1 c2 e5 fun H' v n => g2 H' v (f12.trans (l2.trans l1) (Fr.of_same n.same)) (l2.trans l1) (RX.new re3 n fun a q => f12.none q)
  · exact g1.elim
/-! ### l.index(x) -/
theorem findIdx_first {α : Type} {p : α → Bool} : ∀ {xs : List α} {i : Nat}, xs.findIdx? p = some i → ∃ x, xs[i]? = some x ∧ p x = true ∧ ∀ m y, m < i → xs[m]? = some y → p y = false
  | [], i, h => by simp at h
  | x :: xs, i, h => by
    rw [List.findIdx?_cons] at h
    by_cases c : p x = true
    · rw [if_pos c] at h; cases h
      exact ⟨x, rfl, c, fun m y hm => by omega⟩
    · rw [if_neg c] at h
      obtain ⟨j, h1, rfl⟩ := Option.map_eq_some_iff.mp h
      obtain ⟨y, h2, h3, h4⟩ := findIdx_first h1
      refine ⟨y, by simpa using h2, h3, fun m w hm hw => ?_⟩
      cases m with
      | zero => simp at hw; subst hw; simpa using c
      | succ m => exact h4 m w (by omega) (by simpa using hw)
theorem toDs_get : ∀ {xs : List PV} {i : Nat}, (toDs xs)[i]? = (xs[i]?).map toD
  | [], _ => by simp [toDs]
  | x :: xs, 0 => by simp [toDs]
  | x :: xs, i + 1 => by rw [toDs]; simpa using toDs_get
theorem me_index : Me2 K mg "list" isLstV indexV (rIndexD K) := by
  refine ⟨fun N H p x rp h => ?_, fun N H p q x y z Q rp rq e k => ?_⟩
  · cases p with
    | lst xs =>
      obtain ⟨a, vs, rfl, ha, hs⟩ := rp.lst_
      exact .inl ⟨rfl, vs, SqL.of ha⟩
    | _ => simp at h
  · unfold indexV at e
    split at e
    · rename_i xs
      split at e
      · rename_i hc
        simp only [Bool.and_eq_true, List.all_eq_true] at hc
        obtain ⟨i, e1, rfl⟩ := Option.map_eq_some_iff.mp e
        obtain ⟨a, vs, rfl, ha, hs⟩ := rp.lst_
        obtain ⟨w, h1, h2, h3⟩ := findIdx_first e1
        have dx : Dp K H (V.ref a) (.list (toDs xs)) := .lst (SqL.of ha) (dps_of hs hc.2)
        have hw : w ∈ xs := List.mem_of_getElem? h1
        refine ⟨a, y, toD q, toDs xs, i, toD w, rfl, rfl, dx, dp_c rq hc.1, (shaped_lst hc.2).1, shaped_of (by omega) hc.1, by rw [toDs_get, h1]; rfl, by rw [eqv_toD 20 20 _ _ (hc.2 w hw) hc.1]; exact h2, fun m z' hm hz => ?_, k _ _ (newP (.int _))⟩
        rw [toDs_get] at hz
        obtain ⟨v, e2, rfl⟩ := Option.map_eq_some_iff.mp hz
        rw [eqv_toD 20 20 _ _ (hc.2 v (List.mem_of_getElem? e2)) hc.1]
        exact h3 m v hm e2
      · cases e
    · cases e
theorem pe_index {ap cp : Pos} {da db : OP} (hu : X.A.units + 65 < cLine) (hs : isStar b = false) (hl : (ap.endLine == cp.line) = true) (ha : PE X a (tO X.K X.mm W da)) (hb : PE X b (tO X.K X.mm W db)) (hbase : attributeBase a "index" X.env (eval a X.env) = eval a X.env) :
    PE X (.Call (.Attribute a "index" ap) [b] [] cp) (tE X.K X.mm W (eMe isLstV indexV da db)) := by
  refine PE.imp (pe_bm PySem.F.plainAttrs_list PySem.F.slot_list_index PySem.F.type_list_index (mt_indexD hu) ha (pa_ops (.cons ⟨hs, hb⟩ .nil)) hbase ?_ hl (starEach_cons hs) (any_star rfl)) fun σ H Q h => me_reads me_index h
  rw [starEach_cons hs]
  rfl
end
end Pi

/-! Pi, part 9: what is walked. -/
namespace Pi
open PySem PySem.Spec L2
/-- who owns what later on: as before, or what is new -/
def LeW (ρ : Env) (σ : St) (H : Hp) (ρ' : Env) (σ' : St) : Prop := ∀ a, Own ρ' σ' a → Own ρ σ a ∨ H a = none
section
variable {X : Cx} {K : PySem.W.Frag} {mg : MG} {N N' F F' F1 G : NA} {H H' H0 H1 H2 : Hp} {ρ ρ' ρ1 ρ2 : Env} {σ σ1 σ2 : St} {W : WX}
variable {a b c e : Expr} {es : List Expr} {pos p : Pos}
theorem LeO.w (l : LeO ρ' ρ) : LeW ρ σ H ρ' σ := fun a q => .inl (q.mono l)
theorem LeW.refl (ρ : Env) (σ : St) (H : Hp) : LeW ρ σ H ρ σ := fun a q => .inl q
theorem Fr.transW (f : Fr ρ σ H H1) (w : LeW ρ σ H ρ1 σ1) (g : Fr ρ1 σ1 H1 H2) : Fr ρ σ H H2 :=
  ⟨fun a o h n q => g.keep a o (f.keep a o h n q) n fun z => (w a z).elim q fun z => (by rw [h] at z; cases z), fun a o h => let ⟨o', h'⟩ := f.up a o h; g.up a o' h'⟩
theorem LeW.trans (w : LeW ρ σ H ρ1 σ1) (f : Fr ρ σ H H1) (v : LeW ρ1 σ1 H1 ρ2 σ2) : LeW ρ σ H ρ2 σ2 := fun a q => (v a q).elim (w a) fun z => .inr (f.none z)
/-- what a value is stays, whatever the owners do -/
theorem RepV.go (f : Fr ρ σ H H') (r : RE K mg F ρ σ H) (n : ∀ a, N' a → N a ∨ H a = none) (hN : ∀ a, Own ρ σ a → N a) {x : PV} {v : V} (h : RepV K mg N H x v) : RepV K mg N' H' x v :=
  h.mono (fun _ _ t => f.sqT r t) (fun a vs t m q => ⟨f.keep a _ t m.nt fun z => q (hN a z), fun z => (n a z).elim q fun z => (by rw [t] at z; cases z)⟩) fun _ _ t => f.scr r t
theorem RepVs.go (f : Fr ρ σ H H') (r : RE K mg F ρ σ H) (n : ∀ a, N' a → N a ∨ H a = none) (hN : ∀ a, Own ρ σ a → N a) {x : List PV} {v : List V} (h : RepVs K mg N H x v) : RepVs K mg N' H' x v :=
  h.mono (fun _ _ t => f.sqT r t) (fun a vs t m q => ⟨f.keep a _ t m.nt fun z => q (hN a z), fun z => (n a z).elim q fun z => (by rw [t] at z; cases z)⟩) fun _ _ t => f.scr r t
theorem NN.go {G2 : NA} (w : LeW ρ σ H ρ2 σ2) (g : ∀ a, G2 a → G a ∨ H a = none) : ∀ a, NN G2 ρ2 σ2 a → NN G ρ σ a ∨ H a = none := fun a z => z.elim (fun q => (g a q).imp .inl id) fun q => (w a q).imp .inr id

/-- the frame, but for F's own -/
structure FrF (F : NA) (ρ : Env) (σ : St) (H H' : Hp) : Prop where
  keep : ∀ a o, H a = some o → noTbl o → ¬ Own ρ σ a → ¬ F a → H' a = some o
  up : ∀ a o, H a = some o → ∃ o', H' a = some o'
theorem Fr.f (f : Fr ρ σ H H') : FrF F ρ σ H H' := ⟨fun a o h n q _ => f.keep a o h n q, f.up⟩
theorem FrF.sqT (f : FrF F ρ σ H H') (r : RE K mg F ρ σ H) {a : Addr} {vs : List V} (h : SqT K H a vs) : SqT K H' a vs := by
  rcases h with h | h
  · obtain ⟨o, e1, e2, e3⟩ := rd_tup h
    have nO : ¬ Own ρ σ a := fun q => by
      obtain ⟨ob, e, m⟩ := r.isMut q
      rcases h with h | ⟨u, h⟩
      · rw [e] at h; exact m.2.1 vs (Option.some.inj h)
      · rw [e] at h; exact m.2.2 _ _ (Option.some.inj h)
    have nF : ¬ F a := fun q => by
      obtain ⟨o', e, m⟩ := r.there a q
      rcases h with h | ⟨b, h⟩
      · rw [h] at e; cases e; exact m.2.1 _ rfl
      · rw [h] at e; cases e; exact m.2.2 _ _ rfl
    rcases h with h | ⟨o, h⟩
    · exact .inl (.inl (f.keep a _ h (by intro ps e; cases e) nO nF))
    · exact .inl (.inr ⟨o, f.keep a _ h (by intro ps e; cases e) nO nF⟩)
  · exact .inr h
theorem FrF.scr (f : FrF F ρ σ H H') (r : RE K mg F ρ σ H) {a : Addr} {ns : List Int} (h : Scr K H a ns) : Scr K H' a ns := by
  rcases h with ⟨o, h⟩ | h
  · refine .inl ⟨o, f.keep a _ h (by intro ps e; cases e) (fun q => ?_) fun q => ?_⟩
    · obtain ⟨ob, e, m⟩ := r.isMut q
      rw [e] at h; exact m.2.2 _ _ (Option.some.inj h)
    · obtain ⟨o', e, m⟩ := r.there a q
      rw [h] at e; cases e; exact m.2.2 _ _ rfl
  · exact .inr h
theorem RepV.goF (f : FrF F ρ σ H H') (r : RE K mg F ρ σ H) (n : ∀ a, N' a → N a ∨ H a = none) (hN : ∀ a, Own ρ σ a ∨ F a → N a) {x : PV} {v : V} (h : RepV K mg N H x v) : RepV K mg N' H' x v :=
  h.mono (fun _ _ t => f.sqT r t) (fun a vs t m q => ⟨f.keep a _ t m.nt (fun z => q (hN a (.inl z))) fun z => q (hN a (.inr z)), fun z => (n a z).elim q fun z => (by rw [t] at z; cases z)⟩) fun _ _ t => f.scr r t
theorem RepVs.goF (f : FrF F ρ σ H H') (r : RE K mg F ρ σ H) (n : ∀ a, N' a → N a ∨ H a = none) (hN : ∀ a, Own ρ σ a ∨ F a → N a) {x : List PV} {v : List V} (h : RepVs K mg N H x v) : RepVs K mg N' H' x v :=
  h.mono (fun _ _ t => f.sqT r t) (fun a vs t m q => ⟨f.keep a _ t m.nt (fun z => q (hN a (.inl z))) fun z => q (hN a (.inr z)), fun z => (n a z).elim q fun z => (by rw [t] at z; cases z)⟩) fun _ _ t => f.scr r t
/-- J goes through xs, as long as what G names stands -/
def Wlk (K : PySem.W.Frag) (mg : MG) (F G : NA) (ρ : Env) (σ : St) (H : Hp) (J : It) (xs : List PV) : Prop := ∀ H2 ρ2 σ2 G2, FrF F ρ σ H H2 → LeW ρ σ H ρ2 σ2 → (∀ a, G2 a → G a ∨ H a = none) → RE K mg G2 ρ2 σ2 H2 →
  (∀ (i : Nat) x, xs[i]? = some x → J.go i H2 ∧ ∀ v H3, J.yld i H2 v H3 → Same H2 H3 ∧ RepV K mg (NN G2 ρ2 σ2) H3 x v) ∧ J.stop xs.length H2
/-- a source's items as the rest of a run sees them -/
def RI (K : PySem.W.Frag) (mg : MG) (F : NA) (σ : St) (H : Hp) (xs : List PV) (ρ' : Env) (H' : Hp) (J : It) : Prop := ∃ G : NA, (∀ a, F a → G a) ∧ (∀ a, G a → F a ∨ H a = none) ∧ RE K mg G ρ' σ H' ∧ Wlk K mg F G ρ' σ H' J xs
def tI (K : PySem.W.Frag) (mg : MG) (W : WX) (s : Src) : TI := fun σ H R => ∃ F ρ, RE K mg F ρ σ H ∧ Go K mg W F ρ σ H (RI K mg F σ H) (s ρ) R

theorem wlk_lst {l : Addr} {vs : List V} {xs : List PV} (re : RE K mg G ρ σ H) (hF : ∀ a, F a → G a) (hl : H l = some (.lst vs)) (no : ¬ Own ρ σ l ∧ ¬ F l) (hs : RepVs K mg (NN G ρ σ) H xs vs) : Wlk K mg F G ρ σ H (Itl K l) xs := fun H2 ρ2 σ2 G2 f w gg r2 => by
  have h2 : SqL K H2 l vs := SqL.of (f.keep l _ hl (by intro ps e; cases e) no.1 no.2)
  have hs2 : RepVs K mg (NN G2 ρ2 σ2) H2 xs vs := hs.goF f (re.less hF) (NN.go w gg) fun a q => q.elim .inr fun q => .inl (hF a q)
  refine ⟨fun i x hx => ?_, ⟨vs, h2, by rw [hs.length]; exact Nat.le_refl _⟩⟩
  obtain ⟨v, e1, e2⟩ := hs2.get hx
  refine ⟨⟨vs, v, h2, e1⟩, fun v' H3 ⟨y1, y2⟩ => ?_⟩
  subst y1
  have := y2 vs h2
  rw [e1] at this; cases this
  exact ⟨Same.rfl', e2⟩
theorem wlk_tup {l : Addr} {vs : List V} {xs : List PV} (re : RE K mg G ρ σ H) (hF : ∀ a, F a → G a) (hl : SqT K H l vs) (hs : RepVs K mg (NN G ρ σ) H xs vs) : Wlk K mg F G ρ σ H (Itt K l) xs := fun H2 ρ2 σ2 G2 f w gg r2 => by
  have h2 : SqT K H2 l vs := f.sqT (re.less hF) hl
  have hs2 : RepVs K mg (NN G2 ρ2 σ2) H2 xs vs := hs.goF f (re.less hF) (NN.go w gg) fun a q => q.elim .inr fun q => .inl (hF a q)
  refine ⟨fun i x hx => ?_, ⟨vs, h2, by rw [hs.length]; exact Nat.le_refl _⟩⟩
  obtain ⟨v, e1, e2⟩ := hs2.get hx
  refine ⟨⟨vs, v, h2, e1⟩, fun v' H3 ⟨y1, y2⟩ => ?_⟩
  subst y1
  have := y2 vs h2
  rw [e1] at this; cases this
  exact ⟨Same.rfl', e2⟩
theorem wlk_str {x : Str} : Wlk K mg F G ρ σ H (Its x) (x.cps.toList.map fun c => .str ⟨#[c]⟩) := fun H2 ρ2 σ2 G2 f w gg r2 => by
  refine ⟨fun i y hy => ?_, by simp [Its]⟩
  simp only [List.getElem?_map, Option.map_eq_some_iff] at hy
  obtain ⟨c, hc, rfl⟩ := hy
  have hi : i < x.cps.size := by have := (List.getElem?_eq_some_iff.mp hc).1; simpa using this
  refine ⟨hi, fun v H3 ⟨y1, c', y2, y3⟩ => ?_⟩
  subst y1 y3
  have : x.cps[i]? = some c := by simpa using hc
  rw [y2] at this; cases this
  exact ⟨Same.rfl', .str _⟩
theorem wlk_rng {lo hi : Int} : Wlk K mg F G ρ σ H (Itr lo (hi - lo).toNat) (rgL lo hi) := fun H2 ρ2 σ2 G2 f w gg r2 => by
  refine ⟨fun i y hy => ?_, by show (hi - lo).toNat ≤ _; simp only [rgL, List.length_map, List.length_range]; exact Nat.le_refl _⟩
  unfold rgL at hy
  simp only [List.getElem?_map, Option.map_eq_some_iff] at hy
  obtain ⟨j, hj, rfl⟩ := hy
  obtain ⟨h1, h2⟩ := List.getElem?_eq_some_iff.mp hj
  rw [List.length_range] at h1
  rw [List.getElem_range] at h2
  subst h2
  refine ⟨h1, fun v H3 ⟨y1, y2⟩ => ?_⟩
  subst y1 y2
  exact ⟨Same.rfl', .int _⟩
theorem enumL_get : ∀ {xs : List PV} {k : Int} {i : Nat} {x : PV}, (enumL k xs)[i]? = some x → ∃ y, xs[i]? = some y ∧ x = .tup [.int (k + i), y]
  | [], k, i, x, h => by simp [enumL] at h
  | y :: ys, k, 0, x, h => by
    simp [enumL] at h
    exact ⟨y, rfl, by rw [← h]; simp⟩
  | y :: ys, k, i + 1, x, h => by
    simp only [enumL, List.getElem?_cons_succ] at h
    obtain ⟨z, h1, h2⟩ := enumL_get h
    exact ⟨z, by simpa using h1, by rw [h2]; congr 3; omega⟩
theorem enumL_len : ∀ (xs : List PV) (k : Int), (enumL k xs).length = xs.length
  | [], _ => rfl
  | _ :: xs, k => by simp [enumL, enumL_len xs]
theorem wlk_enum {l : Addr} {vs : List V} {xs : List PV} (re : RE K mg G ρ σ H) (hF : ∀ a, F a → G a) (hl : H l = some (.lst vs)) (no : ¬ Own ρ σ l ∧ ¬ F l) (hs : RepVs K mg (NN G ρ σ) H xs vs) : Wlk K mg F G ρ σ H (Ite K l) (enumL 0 xs) := fun H2 ρ2 σ2 G2 f w gg r2 => by
  have h2 : SqL K H2 l vs := SqL.of (f.keep l _ hl (by intro ps e; cases e) no.1 no.2)
  have hs2 : RepVs K mg (NN G2 ρ2 σ2) H2 xs vs := hs.goF f (re.less hF) (NN.go w gg) fun a q => q.elim .inr fun q => .inl (hF a q)
  refine ⟨fun i x hx => ?_, ⟨vs, h2, by rw [enumL_len, hs.length]; exact Nat.le_refl _⟩⟩
  obtain ⟨y, hy, rfl⟩ := enumL_get hx
  obtain ⟨v, e1, e2⟩ := hs2.get hy
  refine ⟨⟨vs, v, h2, e1⟩, fun v' H3 ⟨T, z, y1, y2, y3, y4⟩ => ?_⟩
  have := y4 vs h2
  rw [e1] at this; cases this
  subst y1 y3
  have n := newT (K := K) (mg := mg) (N := NN G2 ρ2 σ2) y2 (.cons (.int ((i : Nat) : Int)) (.cons e2 .nil))
  rw [Int.zero_add]
  exact n
theorem wlk_enumT {l : Addr} {vs : List V} {xs : List PV} (re : RE K mg G ρ σ H) (hF : ∀ a, F a → G a) (hl : SqT K H l vs) (hs : RepVs K mg (NN G ρ σ) H xs vs) : Wlk K mg F G ρ σ H (IteT K l) (enumL 0 xs) := fun H2 ρ2 σ2 G2 f w gg r2 => by
  have h2 : SqT K H2 l vs := f.sqT (re.less hF) hl
  have hs2 : RepVs K mg (NN G2 ρ2 σ2) H2 xs vs := hs.goF f (re.less hF) (NN.go w gg) fun a q => q.elim .inr fun q => .inl (hF a q)
  refine ⟨fun i x hx => ?_, ⟨vs, h2, by rw [enumL_len, hs.length]; exact Nat.le_refl _⟩⟩
  obtain ⟨y, hy, rfl⟩ := enumL_get hx
  obtain ⟨v, e1, e2⟩ := hs2.get hy
  refine ⟨⟨vs, v, h2, e1⟩, fun v' H3 ⟨T, z, y1, y2, y3, y4⟩ => ?_⟩
  have := y4 vs h2
  rw [e1] at this; cases this
  subst y1 y3
  have n := newT (K := K) (mg := mg) (N := NN G2 ρ2 σ2) y2 (.cons (.int ((i : Nat) : Int)) (.cons e2 .nil))
  rw [Int.zero_add]
  exact n
theorem zipL_get : ∀ {xs ys : List PV} {i : Nat} {x : PV}, (zipL xs ys)[i]? = some x → ∃ y z, xs[i]? = some y ∧ ys[i]? = some z ∧ x = .tup [y, z]
  | [], _, i, x, h => by simp [zipL] at h
  | _ :: _, [], i, x, h => by simp [zipL] at h
  | a :: xs, b :: ys, 0, x, h => by simp [zipL] at h; exact ⟨a, b, rfl, rfl, h.symm⟩
  | a :: xs, b :: ys, i + 1, x, h => by
    simp only [zipL, List.getElem?_cons_succ] at h
    obtain ⟨y, z, h1, h2, h3⟩ := zipL_get h
    exact ⟨y, z, by simpa using h1, by simpa using h2, h3⟩
theorem zipL_len : ∀ (xs ys : List PV), xs.length ≤ (zipL xs ys).length ∨ ys.length ≤ (zipL xs ys).length
  | [], _ => by simp
  | _ :: _, [] => by simp
  | _ :: xs, _ :: ys => by have := zipL_len xs ys; simp [zipL]; omega
theorem wlk_zipL {l m : Addr} {vs ws : List V} {xs ys : List PV} (re : RE K mg G ρ σ H) (hF : ∀ a, F a → G a) (hl : H l = some (.lst vs)) (no : ¬ Own ρ σ l ∧ ¬ F l) (hs : RepVs K mg (NN G ρ σ) H xs vs) (hm : H m = some (.lst ws)) (nm : ¬ Own ρ σ m ∧ ¬ F m) (ht : RepVs K mg (NN G ρ σ) H ys ws) :
    Wlk K mg F G ρ σ H (Itz K l m) (zipL xs ys) := fun H2 ρ2 σ2 G2 f w gg r2 => by
  have h2 : SqL K H2 l vs := SqL.of (f.keep l _ hl (by intro ps e; cases e) no.1 no.2)
  have h3 : SqL K H2 m ws := SqL.of (f.keep m _ hm (by intro ps e; cases e) nm.1 nm.2)
  have hs2 : RepVs K mg (NN G2 ρ2 σ2) H2 xs vs := hs.goF f (re.less hF) (NN.go w gg) fun a q => q.elim .inr fun q => .inl (hF a q)
  have ht2 : RepVs K mg (NN G2 ρ2 σ2) H2 ys ws := ht.goF f (re.less hF) (NN.go w gg) fun a q => q.elim .inr fun q => .inl (hF a q)
  refine ⟨fun i x hx => ?_, ⟨vs, ws, h2, h3, by rw [← hs.length, ← ht.length]; exact zipL_len xs ys⟩⟩
  obtain ⟨y, z, hy, hz, rfl⟩ := zipL_get hx
  obtain ⟨v, e1, e2⟩ := hs2.get hy
  obtain ⟨u, e3, e4⟩ := ht2.get hz
  refine ⟨⟨vs, ws, v, u, h2, h3, e1, e3⟩, fun v' H3 ⟨T, z1, z2, y1, y2, y3, y4, y5⟩ => ?_⟩
  have := y4 vs h2
  rw [e1] at this; cases this
  have := y5 ws h3
  rw [e3] at this; cases this
  subst y1 y3
  exact newT (K := K) (mg := mg) (N := NN G2 ρ2 σ2) y2 (.cons e2 (.cons e4 .nil))
theorem wlk_zipT {l m : Addr} {vs ws : List V} {xs ys : List PV} (re : RE K mg G ρ σ H) (hF : ∀ a, F a → G a) (hl : SqT K H l vs) (hs : RepVs K mg (NN G ρ σ) H xs vs) (hm : SqT K H m ws) (ht : RepVs K mg (NN G ρ σ) H ys ws) :
    Wlk K mg F G ρ σ H (RZ.ItzT K l m) (zipL xs ys) := fun H2 ρ2 σ2 G2 f w gg r2 => by
  have h2 : SqT K H2 l vs := f.sqT (re.less hF) hl
  have h3 : SqT K H2 m ws := f.sqT (re.less hF) hm
  have hs2 : RepVs K mg (NN G2 ρ2 σ2) H2 xs vs := hs.goF f (re.less hF) (NN.go w gg) fun a q => q.elim .inr fun q => .inl (hF a q)
  have ht2 : RepVs K mg (NN G2 ρ2 σ2) H2 ys ws := ht.goF f (re.less hF) (NN.go w gg) fun a q => q.elim .inr fun q => .inl (hF a q)
  refine ⟨fun i x hx => ?_, ⟨vs, ws, h2, h3, by rw [← hs.length, ← ht.length]; exact zipL_len xs ys⟩⟩
  obtain ⟨y, z, hy, hz, rfl⟩ := zipL_get hx
  obtain ⟨v, e1, e2⟩ := hs2.get hy
  obtain ⟨u, e3, e4⟩ := ht2.get hz
  refine ⟨⟨vs, ws, v, u, h2, h3, e1, e3⟩, fun v' H3 ⟨T, z1, z2, y1, y2, y3, y4, y5⟩ => ?_⟩
  have := y4 vs h2
  rw [e1] at this; cases this
  have := y5 ws h3
  rw [e3] at this; cases this
  subst y1 y3
  exact newT (K := K) (mg := mg) (N := NN G2 ρ2 σ2) y2 (.cons e2 (.cons e4 .nil))

/-! ### a value that is walked -/
variable {tg : Expr}
def iSeq (K : PySem.W.Frag) (te : TE) : TI := fun σ H R => te σ H fun y H1 => (∃ l vs, y = .ref l ∧ SqL K H1 l vs ∧ R (Itl K l) H1) ∨ (∃ l vs, y = .ref l ∧ SqT K H1 l vs ∧ R (Itt K l) H1) ∨ ∃ x, y = .str x ∧ R (Its x) H1
theorem pi_seq {te : TE} (he : PE X e te) : PI X tg e (iSeq X.K te) := by
  refine ⟨fun pins s σ H R I h => ?_⟩
  refine thn (he.run pins s σ H _ I h) fun u s2 z => ?_
  obtain ⟨y, H1, J, ry, z⟩ := z
  rcases z with ⟨l, vs, rfl, hl, q⟩ | ⟨l, vs, rfl, hl, q⟩ | ⟨x, rfl, q⟩
  · cases ry
    obtain ⟨its, rv, hz, _⟩ := J.list hl
    exact wpAny_pyIter_list hz.isList (pi_one (tk := s2.toks) J _ (turn_list l _) ⟨_, Heap.get?_push_size _ rfl, rfl, rfl⟩ q)
  · cases ry
    obtain ⟨its, rv, hz, _⟩ := J.tuple hl
    exact wpAny_pyIter_tuple hz (pi_one (tk := s2.toks) J _ (turn_tuple l _) ⟨_, Heap.get?_push_size _ rfl, rfl, rfl⟩ q)
  · obtain ⟨t, rfl⟩ := ry
    by_cases hx : x.cps.all (· < 128) = true
    · exact wpAny_pyIter_ascii hx (pi_one (tk := s2.toks) J _ (turn_str _ x t _ (.inl rfl)) ⟨_, Heap.get?_push_size _ rfl, rfl, rfl⟩ q)
    · exact wpAny_pyIter_wide (by simpa using hx) (pi_one (tk := s2.toks) J _ (turn_str _ x t _ (.inr rfl)) ⟨_, Heap.get?_push_size _ rfl, rfl, rfl⟩ q)
theorem PI.imp {t t' : TI} (h : PI X tg e t) (i : ∀ σ H Q, t' σ H Q → t σ H Q) : PI X tg e t' := ⟨fun pins s σ H R I q => h.run pins s σ H R I (i σ H R q)⟩
theorem pi_eA {d : E} (he : PE X e (tE X.K X.mm W d)) : PI X tg e (tI X.K X.mm W (srE d)) := by
  refine PI.imp (pi_seq he) fun σ H R h => ?_
  obtain ⟨F, ρ, re, g⟩ := h
  refine ⟨F, ρ, re, Go.bd g fun x ρ1 H1 v f1 l1 r1 g1 => ?_⟩
  obtain ⟨xs, e, g1⟩ := res_go g1
  cases x with
  | pv q =>
    obtain ⟨r2, r3⟩ := r1
    cases r2 with
    | obj hl hn sh hs =>
      cases sh with
      | dK => cases e
      | dN => cases e
      | lst =>
      cases e
      exact .inl ⟨_, _, rfl, SqL.of hl, g1 _ _ f1 l1 ⟨F, fun _ z => z, fun _ z => .inl z, r3, wlk_lst r3 (fun _ z => z) hl ⟨fun z => hn (.inr z), fun z => hn (.inl z)⟩ hs⟩⟩
    | tup hl hs =>
      cases e
      exact .inr (.inl ⟨_, _, rfl, hl, g1 _ _ f1 l1 ⟨F, fun _ z => z, fun _ z => .inl z, r3, wlk_tup r3 (fun _ z => z) hl hs⟩⟩)
    | str x =>
      cases e
      exact .inr (.inr ⟨_, rfl, g1 _ _ f1 l1 ⟨F, fun _ z => z, fun _ z => .inl z, r3, wlk_str⟩⟩)
    | _ => cases e
  | own o =>
    obtain ⟨l, rfl, h0, nF, nO, r2, r3⟩ := r1
    cases r2 with
    | mk hl sh hs =>
      cases sh with
      | dK => cases e
      | dN => cases e
      | lst =>
      cases e
      exact .inl ⟨_, _, rfl, SqL.of hl, g1 _ _ f1 l1 ⟨FF F l, fun _ z => .inl z, fun _ z => z.imp id fun z => (by rw [z]; exact h0), r3, wlk_lst r3 (fun _ z => .inl z) hl ⟨nO, nF⟩ hs⟩⟩

/-! ### ranges -/
theorem rgOk_of {i j : Int} (h : rgOk i j = true) : -(2 ^ 62) ≤ i ∧ i < 2 ^ 62 ∧ -(2 ^ 62) ≤ j ∧ j < 2 ^ 62 ∧ (j - i).toNat ≤ 2 ^ 24 := by
  simp only [rgOk, Bool.and_eq_true, decide_eq_true_eq] at h
  omega
theorem rgV_some {x y : PV} {xs : List PV} (h : Pi.rgV x y = some xs) : ∃ i j, x = .int i ∧ y = .int j ∧ rgOk i j = true ∧ xs = rgL i j := by
  unfold Pi.rgV at h
  split at h
  · split at h
    · rename_i hh
      cases h
      exact ⟨_, _, rfl, rfl, hh, rfl⟩
    · cases h
  · cases h
theorem pi_r1A {da : OP} (hg : Gl X "range") (hm : X.mg "range" = none) (hs : isStar a = false) (ha : PE X a (tO X.K X.mm W da)) : PI X tg (.Call (.Name "range" p) [a] [] pos) (tI X.K X.mm W (srR1 da)) := by
  refine PI.imp (pi_range1 hg hm (pa_cons ha pa_nil (starEach_cons hs)) (starEach_cons hs)) fun σ H R h => ?_
  obtain ⟨F, ρ, re, g⟩ := h
  refine ⟨F, ρ, re, Go.bd g fun x ρ1 H1 v f1 l1 r1 g1 => ?_⟩
  obtain ⟨xs, e, g1⟩ := res_go g1
  obtain ⟨q, e1, e2⟩ := Option.bind_eq_some_iff.mp e
  obtain ⟨i, j, e3, rfl, e4, rfl⟩ := rgV_some e2
  cases e3
  obtain rfl := (RR.now r1 e1).int_
  obtain ⟨b1, b2, b3, b4, _⟩ := rgOk_of e4
  have w := wlk_rng (K := X.K) (mg := X.mm) (F := F) (G := F) (ρ := ρ1) (σ := σ) (H := H1) (lo := 0) (hi := j)
  rw [Int.sub_zero] at w
  exact ⟨j, rfl, b3, b4, g1 _ _ f1 l1 ⟨F, fun _ z => z, fun _ z => .inl z, r1.re, w⟩⟩
theorem pi_r2A {da db : OP} (hg : Gl X "range") (hm : X.mg "range" = none) (hs : isStar a = false) (hs2 : isStar b = false) (ha : PE X a (tO X.K X.mm W da)) (hb : PE X b (tO X.K X.mm W db)) : PI X tg (.Call (.Name "range" p) [a, b] [] pos) (tI X.K X.mm W (srR2 da db)) := by
  have s1 : starEach [b] X.env = [(false, eval b X.env)] := starEach_cons hs2
  refine PI.imp (pi_range2 hg hm (pa_cons ha (pa_cons hb pa_nil (starEach_cons hs2)) (starEach_cons hs)) ((starEach_cons hs).trans (by rw [s1])) s1) fun σ H R h => ?_
  obtain ⟨F, ρ, re, g⟩ := h
  refine ⟨F, ρ, re, Go.bd g fun x ρ1 H1 v f1 l1 r1 g1 => ?_⟩
  refine ⟨FR F x v, ρ1, r1.re', Go.bd2 g1 f1 l1 FR.sub fun y ρ2 H2 u f2 l2 r2 g2 => ?_⟩
  obtain ⟨xs, e, g2⟩ := res_go g2
  obtain ⟨q, e1, e⟩ := Option.bind_eq_some_iff.mp e
  obtain ⟨q2, e2, e3⟩ := Option.bind_eq_some_iff.mp e
  obtain ⟨i, j, rfl, rfl, e4, rfl⟩ := rgV_some e3
  obtain rfl := (r1.content f2 l2 r2.re FR.sub e1).int_
  obtain rfl := (RR.now r2 e2).int_
  obtain ⟨b1, b2, b3, b4, _⟩ := rgOk_of e4
  exact ⟨i, j, rfl, ⟨b1, b2, b3, b4⟩, g2 _ _ (f1.trans l1 f2) (l2.trans l1) ⟨F, fun _ z => z, fun _ z => .inl z, r2.re.less FR.sub, wlk_rng⟩⟩
theorem reps_rg {i j : Int} : RepVs K mg N H (rgL i j) (L2.rgV i j) := by
  unfold rgL L2.rgV
  induction List.range (j - i).toNat with
  | nil => exact .nil
  | cons k r ih => exact .cons (.int _) ih
theorem pe_lr1 {da : OP} {p2 pos2 : Pos} (hc : X.calm = true) (hg2 : Gl X "list") (hm2 : X.mg "list" = none) (hg : Gl X "range") (hm : X.mg "range" = none) (hs : isStar a = false) (ha : PE X a (tO X.K X.mm W da)) :
    PE X (.Call (.Name "list" p2) [.Call (.Name "range" p) [a] [] pos] [] pos2) (tE X.K X.mm W (eOfL (srR1 da))) := by
  refine PE.imp (pe_listRg hc hg2 hm2 (prg_1 hg hm ha (starEach_cons hs)) (starEach_cons rfl)) fun σ H R h => ?_
  obtain ⟨F, ρ, re, g⟩ := h
  refine ⟨F, ρ, re, ?_⟩
  simp only [eOfL, srR1] at g
  cases q : da ρ with
  | ok x ρ1 =>
    rw [q] at g
    intro H1 v f1 l1 r1
    obtain ⟨xs, e, g1⟩ := res_bd g
    obtain ⟨q, e1, e2⟩ := Option.bind_eq_some_iff.mp e
    obtain ⟨i, j, e3, rfl, e4, rfl⟩ := rgV_some e2
    cases e3
    obtain rfl := (RR.now r1 e1).int_
    refine ⟨j, rfl, rgOk_of e4, fun l hl => ?_⟩
    have n := newL (K := X.K) (mg := X.mm) (N := NN F ρ1 σ) hl (reps_rg (i := 0) (j := j))
    exact g1 _ _ (f1.trans l1 (Fr.of_same n.same)) l1 (RX.new r1.re n fun a q => f1.none q)
  | exc c fs ρ1 => rw [q] at g; exact g
  | bad => rw [q] at g; exact g
theorem pe_lr2 {da db : OP} {p2 pos2 : Pos} (hc : X.calm = true) (hg2 : Gl X "list") (hm2 : X.mg "list" = none) (hg : Gl X "range") (hm : X.mg "range" = none) (hs : isStar a = false) (hs2 : isStar b = false) (ha : PE X a (tO X.K X.mm W da)) (hb : PE X b (tO X.K X.mm W db)) :
    PE X (.Call (.Name "list" p2) [.Call (.Name "range" p) [a, b] [] pos] [] pos2) (tE X.K X.mm W (eOfL (srR2 da db))) := by
  refine PE.imp (pe_listRg hc hg2 hm2 (prg_2 hg hm ha hb (starEach_cons hs) (starEach_cons hs2) (any_star (by simp [hs2]))) (starEach_cons rfl)) fun σ H R h => ?_
  obtain ⟨F, ρ, re, g⟩ := h
  refine ⟨F, ρ, re, ?_⟩
  simp only [eOfL, srR2] at g
  cases q : da ρ with
  | ok x ρ1 =>
    rw [q] at g
    intro H1 v f1 l1 r1
    refine ⟨FR F x v, ρ1, r1.re', ?_⟩
    simp only [Out.bd] at g
    cases q2 : db ρ1 with
    | ok y ρ2 =>
      rw [q2] at g
      intro H2 u f2 l2 r2
      obtain ⟨xs, e, g2⟩ := res_bd g
      obtain ⟨q, e1, e⟩ := Option.bind_eq_some_iff.mp e
      obtain ⟨q2, e2, e3⟩ := Option.bind_eq_some_iff.mp e
      obtain ⟨i, j, rfl, rfl, e4, rfl⟩ := rgV_some e3
      obtain rfl := (r1.content f2 l2 r2.re FR.sub e1).int_
      obtain rfl := (RR.now r2 e2).int_
      refine ⟨i, j, rfl, rfl, rgOk_of e4, fun l hl => ?_⟩
      have n := newL (K := X.K) (mg := X.mm) (N := NN F ρ2 σ) hl (reps_rg (i := i) (j := j))
      have f12 := f1.trans l1 f2
      exact g2 _ _ (f12.trans (l2.trans l1) (Fr.of_same n.same)) (l2.trans l1) (RX.new (r2.re.less FR.sub) n fun a q => f12.none q)
    | exc c fs ρ2 => rw [q2] at g; exact fun H' cls d f2 l2 r2 e => g H' cls d (f1.trans l1 f2) (l2.trans l1) (r2.less FR.sub) e
    | bad => rw [q2] at g; exact g
  | exc c fs ρ1 => rw [q] at g; exact g
  | bad => rw [q] at g; exact g

/-! ### enumerate, zip -/
/-- a list among the operands -/
theorem RVl.lst1 (re : RE K mg G ρ σ H) (hF : ∀ a, F a → G a) {x : XV} {v : V} {rs : List XV} {vs : List V} {xs : List PV} (h : RVl K mg G F ρ σ H ((x :: rs).map RV.v) (v :: vs)) (e : x.val = .lst xs) : ∃ l ws, v = .ref l ∧ H l = some (.lst ws) ∧ (¬ Own ρ σ l ∧ ¬ F l) ∧ RepVs K mg (NN G ρ σ) H xs ws := by
  cases x with
  | pv p =>
    obtain ⟨h1, _⟩ := h
    simp only [XV.val] at e
    subst e
    cases h1 with
    | obj hl hn sh hs => cases sh with
      | lst => exact ⟨_, _, rfl, hl, ⟨fun z => hn (.inr z), fun z => hn (.inl (hF _ z))⟩, hs⟩
  | own o =>
    obtain ⟨⟨l, rfl, g, n, r, _⟩, _⟩ := h
    simp only [XV.val] at e
    subst e
    cases r with
    | mk hl sh hs => cases sh with
      | lst => exact ⟨_, _, rfl, hl, ⟨fun z => re.apart l g z, n⟩, hs⟩
theorem RVl.tup1 {x : XV} {v : V} {rs : List XV} {vs : List V} {xs : List PV} (h : RVl K mg G F ρ σ H ((x :: rs).map RV.v) (v :: vs)) (e : x.val = .tup xs) : ∃ l ws, v = .ref l ∧ SqT K H l ws ∧ RepVs K mg (NN G ρ σ) H xs ws := by
  cases x with
  | pv p =>
    obtain ⟨h1, _⟩ := h
    simp only [XV.val] at e
    subst e
    cases h1 with
    | tup hl hs => exact ⟨_, _, rfl, hl, hs⟩
    | obj _ _ sh _ => cases sh
  | own o =>
    obtain ⟨⟨l, rfl, g, n, r, _⟩, _⟩ := h
    simp only [XV.val] at e
    subst e
    cases r with
    | mk _ sh _ => cases sh
theorem RVl.tl {x : XV} {v : V} {rs : List RV} {vs : List V} (h : RVl K mg G F ρ σ H (.v x :: rs) (v :: vs)) : RVl K mg G F ρ σ H rs vs := by
  cases x with
  | pv p => exact h.2
  | own o => exact h.2
theorem RVl.lens : ∀ {rs : List RV} {vs : List V}, RVl K mg G F ρ σ H rs vs → rs.length = vs.length
  | [], [], _ => rfl
  | .v (.pv p) :: xs, v :: vs, h => congrArg Nat.succ (RVl.lens h.2)
  | .v (.own o) :: xs, v :: vs, h => congrArg Nat.succ (RVl.lens h.2)
  | .sl i :: xs, v :: vs, h => congrArg Nat.succ (RVl.lens h.2)
theorem pi_enA {d : E} {elts : List Expr} {kk : Nat} {tpos : Pos} (hg : Gl X "enumerate") (hm : X.mg "enumerate" = none) (hs : isStar a = false) (ha : PE X a (tE X.K X.mm W d)) : PI X (.Tuple elts kk tpos) (.Call (.Name "enumerate" p) [a] [] pos) (tI X.K X.mm W (srEnum d)) := by
  refine PI.imp (pi_enumB hg hm (pa_evs (.cons ⟨hs, ha⟩ .nil)) (starEach_cons hs)) fun σ H R h => ?_
  obtain ⟨F, ρ, re, g⟩ := h
  refine evs_reads re g fun xs ρ1 H1 vs hl1 f1 l1 r1 g1 => ?_
  obtain ⟨G, h1, h2, h3, h4⟩ := r1
  match xs, vs, hl1, h4 with
  | [x], [v], _, h4 =>
    obtain ⟨ys, e, g1⟩ := res_go g1
    obtain ⟨xs, e1, rfl⟩ := Option.map_eq_some_iff.mp e
    unfold items at e1
    split at e1
    · rename_i zs e2
      cases e1
      obtain ⟨l, ws, rfl, hl, no, hw⟩ := RVl.lst1 h3 h1 h4 e2
      exact ⟨l, ws, rfl, .inl ⟨SqL.of hl, g1 _ _ f1 l1 ⟨G, h1, h2, h3, wlk_enum h3 h1 hl no hw⟩⟩⟩
    · rename_i zs e2
      cases e1
      obtain ⟨l, ws, rfl, hl, hw⟩ := RVl.tup1 h4 e2
      exact ⟨l, ws, rfl, .inr ⟨hl, g1 _ _ f1 l1 ⟨G, h1, h2, h3, wlk_enumT h3 h1 hl hw⟩⟩⟩
    · cases e1
  | [x], [], _, h4 => have := RVl.lens h4; simp at this
  | [x], _ :: _ :: _, _, h4 => have := RVl.lens h4; simp at this
theorem pi_zpA {da db : E} {elts : List Expr} {kk : Nat} {tpos : Pos} (hg : Gl X "zip") (hm : X.mg "zip" = none) (hs : isStar a = false) (hs2 : isStar b = false) (ha : PE X a (tE X.K X.mm W da)) (hb : PE X b (tE X.K X.mm W db)) : PI X (.Tuple elts kk tpos) (.Call (.Name "zip" p) [a, b] [] pos) (tI X.K X.mm W (srZip da db)) := by
  refine PI.imp (RZ.pi_zipA hg hm (pa_evs (.cons ⟨hs, ha⟩ (.cons ⟨hs2, hb⟩ .nil))) (starEach_cons hs) (any_star (by simp [hs2]))) fun σ H R h => ?_
  obtain ⟨F, ρ, re, g⟩ := h
  refine evs_reads re g fun xs ρ1 H1 vs hl1 f1 l1 r1 g1 => ?_
  obtain ⟨G, h1, h2, h3, h4⟩ := r1
  match xs, vs, hl1, h4 with
  | [x, y], [v, u], _, h4 =>
    obtain ⟨ys, e, g1⟩ := res_go g1
    unfold zipV at e
    split at e
    · rename_i xs ys e1 e2
      cases e
      obtain ⟨l, ws, rfl, hl, no, hw⟩ := RVl.lst1 h3 h1 h4 e1
      obtain ⟨m, us, rfl, hm, nm, hu⟩ := RVl.lst1 h3 h1 (RVl.tl h4) e2
      exact ⟨l, m, ws, us, rfl, .inl ⟨SqL.of hl, SqL.of hm, g1 _ _ f1 l1 ⟨G, h1, h2, h3, wlk_zipL h3 h1 hl no hw hm nm hu⟩⟩⟩
    · rename_i xs ys e1 e2
      cases e
      obtain ⟨l, ws, rfl, hl, hw⟩ := RVl.tup1 h4 e1
      obtain ⟨m, us, rfl, hm, hu⟩ := RVl.tup1 (rs := []) (RVl.tl h4) e2
      exact ⟨l, m, ws, us, rfl, .inr ⟨hl, hm, g1 _ _ f1 l1 ⟨G, h1, h2, h3, wlk_zipT h3 h1 hl hw hm hu⟩⟩⟩
    · cases e
  | [x, y], [], _, h4 => have := RVl.lens h4; simp at this
  | [x, y], [_], _, h4 => have := RVl.lens h4; simp at this
  | [x, y], _ :: _ :: _ :: _, _, h4 => have := RVl.lens h4; simp at this
end
end Pi

/-! Pi, part 10: calls of defs. -/
namespace Pi
open PySem PySem.Spec L2
/-- a def's promise: what the interpreter answers -/
def spOf (K : PySem.W.Frag) (mg : MG) (np : Nat) (φ : List XV → FOut) : Sp := fun vs H Q E => vs.length = np ∧ ∃ F xs, RE K mg F (xs.map some) (vs.map some) H ∧ match φ xs with
  | .ok r outs => ∀ H' v, Fr (xs.map some) (vs.map some) H H' → LeO outs (xs.map some) → RX K mg F outs (vs.map some) H H' r v → Q v H'
  | .exc c fs => ∀ H' cls d, Fr (xs.map some) (vs.map some) H H' → RExc K mg c fs cls d H' → E cls d H'
  | .bad => False
section
variable {X : Cx} {K : PySem.W.Frag} {mg : MG} {N N' F F' F1 G : NA} {H H' H0 H1 H2 : Hp} {ρ ρ' ρ1 ρ2 : Env} {σ σ1 σ2 : St} {W : WX}
variable {a b c e : Expr} {es : List Expr} {pos p : Pos} {rs : List RV} {xs : List XV} {vs : List V} {outs : List (Option XV)}

/-! ### rows, item by item -/
theorem args_len : ∀ {rs : List RV} {xs : List XV}, argsOf ρ rs = some xs → xs.length = rs.length
  | [], _, h => by simp at h; subst h; rfl
  | .v x :: r, _, h => by
    simp only [argsOf, Option.map_eq_some_iff] at h
    obtain ⟨ys, h1, rfl⟩ := h
    simp [args_len h1]
  | .sl i :: r, _, h => by
    simp only [argsOf] at h
    split at h
    · simp only [Option.map_eq_some_iff] at h
      obtain ⟨ys, h1, rfl⟩ := h
      simp [args_len h1]
    · cases h
theorem args_get : ∀ {rs : List RV} {xs : List XV}, argsOf ρ rs = some xs → ∀ (i : Nat) x, xs[i]? = some x → rs[i]? = some (.v x) ∨ ∃ j, rs[i]? = some (.sl j) ∧ ρ[j]? = some (some x)
  | [], _, h, i, x, e => by simp at h; subst h; simp at e
  | .v y :: r, _, h, i, x, e => by
    simp only [argsOf, Option.map_eq_some_iff] at h
    obtain ⟨ys, h1, rfl⟩ := h
    cases i with
    | zero => simp at e; subst e; exact .inl rfl
    | succ i => simpa using args_get h1 i x (by simpa using e)
  | .sl k :: r, _, h, i, x, e => by
    simp only [argsOf] at h
    split at h
    · rename_i y hy
      simp only [Option.map_eq_some_iff] at h
      obtain ⟨ys, h1, rfl⟩ := h
      cases i with
      | zero => simp at e; subst e; exact .inr ⟨k, rfl, hy⟩
      | succ i => simpa using args_get h1 i x (by simpa using e)
    · cases h
theorem RVl.pvAt : ∀ {rs : List RV} {vs : List V}, RVl K mg G F ρ σ H rs vs → ∀ (i : Nat) x, rs[i]? = some (.v (.pv x)) → ∃ v, vs[i]? = some v ∧ RepV K mg (NN G ρ σ) H x v
  | [], [], h, i, x, e => by simp at e
  | .v (.pv p) :: xs, v :: vs, h, i, x, e => by
    cases i with
    | zero => simp at e; subst e; exact ⟨v, rfl, h.1⟩
    | succ i => simpa using RVl.pvAt h.2 i x (by simpa using e)
  | .v (.own o) :: xs, v :: vs, h, i, x, e => by
    cases i with
    | zero => simp at e
    | succ i => simpa using RVl.pvAt h.2 i x (by simpa using e)
  | .sl k :: xs, v :: vs, h, i, x, e => by
    cases i with
    | zero => simp at e
    | succ i => simpa using RVl.pvAt h.2 i x (by simpa using e)
theorem RVl.ownAt : ∀ {rs : List RV} {vs : List V}, RVl K mg G F ρ σ H rs vs → ∀ (i : Nat) x, rs[i]? = some (.v (.own x)) → ∃ a, vs[i]? = some (.ref a) ∧ G a ∧ ¬ F a ∧ RepO K mg (NN G ρ σ) H x a ∧ ∀ (j : Nat) o, i < j → rs[j]? = some (.v (.own o)) → vs[j]? ≠ some (.ref a)
  | [], [], h, i, x, e => by simp at e
  | .v (.pv p) :: xs, v :: vs, h, i, x, e => by
    cases i with
    | zero => simp at e
    | succ i =>
      obtain ⟨a, h1, h2, h3, h4, h5⟩ := RVl.ownAt h.2 i x (by simpa using e)
      refine ⟨a, by simpa using h1, h2, h3, h4, fun j o hj e2 => ?_⟩
      cases j with
      | zero => omega
      | succ j => simpa using h5 j o (by omega) (by simpa using e2)
  | .v (.own o) :: xs, v :: vs, h, i, x, e => by
    cases i with
    | zero =>
      simp at e; subst e
      obtain ⟨⟨a, rfl, g, n, r, d⟩, _⟩ := h
      refine ⟨a, rfl, g, n, r, fun j o hj e2 => ?_⟩
      cases j with
      | zero => omega
      | succ j => simpa using d j o (by simpa using e2)
    | succ i =>
      obtain ⟨a, h1, h2, h3, h4, h5⟩ := RVl.ownAt h.2 i x (by simpa using e)
      refine ⟨a, by simpa using h1, h2, h3, h4, fun j o hj e2 => ?_⟩
      cases j with
      | zero => omega
      | succ j => simpa using h5 j o (by omega) (by simpa using e2)
  | .sl k :: xs, v :: vs, h, i, x, e => by
    cases i with
    | zero => simp at e
    | succ i =>
      obtain ⟨a, h1, h2, h3, h4, h5⟩ := RVl.ownAt h.2 i x (by simpa using e)
      refine ⟨a, by simpa using h1, h2, h3, h4, fun j o hj e2 => ?_⟩
      cases j with
      | zero => omega
      | succ j => simpa using h5 j o (by omega) (by simpa using e2)
theorem RVl.slAt : ∀ {rs : List RV} {vs : List V}, RVl K mg G F ρ σ H rs vs → ∀ (i k : Nat), rs[i]? = some (.sl k) → ∃ v, vs[i]? = some v ∧ σ[k]? = some (some v)
  | [], [], h, i, k, e => by simp at e
  | .v (.pv p) :: xs, v :: vs, h, i, k, e => by
    cases i with
    | zero => simp at e
    | succ i => simpa using RVl.slAt h.2 i k (by simpa using e)
  | .v (.own o) :: xs, v :: vs, h, i, k, e => by
    cases i with
    | zero => simp at e
    | succ i => simpa using RVl.slAt h.2 i k (by simpa using e)
  | .sl j :: xs, v :: vs, h, i, k, e => by
    cases i with
    | zero => simp at e; subst e; exact ⟨v, rfl, h.1⟩
    | succ i => simpa using RVl.slAt h.2 i k (by simpa using e)
theorem mem_slots : ∀ {rs : List RV} {i j : Nat}, rs[i]? = some (.sl j) → j ∈ slots rs
  | [], i, j, e => by simp at e
  | .v x :: r, i, j, e => by
    cases i with
    | zero => simp at e
    | succ i => simp only [slots]; exact mem_slots (i := i) (by simpa using e)
  | .sl k :: r, i, j, e => by
    cases i with
    | zero => simp at e; subst e; simp
    | succ i => simp only [slots, List.mem_cons]; exact .inr (mem_slots (i := i) (by simpa using e))
theorem slots_inj : ∀ {rs : List RV}, (slots rs).Nodup → ∀ {i i' j : Nat}, rs[i]? = some (.sl j) → rs[i']? = some (.sl j) → i = i'
  | [], _, i, i', j, e, e' => by simp at e
  | .v x :: r, nd, i, i', j, e, e' => by
    cases i with
    | zero => simp at e
    | succ i =>
      cases i' with
      | zero => simp at e'
      | succ i' => exact congrArg Nat.succ (slots_inj (rs := r) nd (j := j) (by simpa using e) (by simpa using e'))
  | .sl k :: r, nd, i, i', j, e, e' => by
    simp only [slots, List.nodup_cons] at nd
    cases i with
    | zero =>
      cases i' with
      | zero => rfl
      | succ i' =>
        simp at e; subst e
        exact absurd (mem_slots (i := i') (by simpa using e')) nd.1
    | succ i =>
      cases i' with
      | zero =>
        simp at e'; subst e'
        exact absurd (mem_slots (i := i) (by simpa using e)) nd.1
      | succ i' => exact congrArg Nat.succ (slots_inj (rs := r) nd.2 (j := j) (by simpa using e) (by simpa using e'))
theorem pb_len : ∀ {rs : List RV} {outs : List (Option XV)} {ρ : Env}, (putBack rs outs ρ).length = ρ.length
  | [], _, _ => by simp [putBack]
  | .sl i :: rs, [], _ => by simp [putBack]
  | .v x :: rs, [], _ => by simp [putBack]
  | .sl i :: rs, o :: os, ρ => by simp only [putBack, List.length_set]; exact pb_len
  | .v x :: rs, o :: os, ρ => by simp only [putBack]; exact pb_len
theorem pb_cases : ∀ {rs : List RV} {outs : List (Option XV)} {ρ : Env} {j : Nat} {x : XV}, outs.length = rs.length → (putBack rs outs ρ)[j]? = some (some x) →
    (∃ i : Nat, rs[i]? = some (.sl j) ∧ outs[i]? = some (some x)) ∨ ((∀ i : Nat, rs[i]? ≠ some (.sl j)) ∧ ρ[j]? = some (some x))
  | [], _, ρ, j, x, _, h => .inr ⟨by simp, by simpa [putBack] using h⟩
  | .sl i :: rs, [], ρ, j, x, hl, h => by simp at hl
  | .v y :: rs, [], ρ, j, x, hl, h => by simp at hl
  | .sl i :: rs, o :: os, ρ, j, x, hl, h => by
    simp only [putBack] at h
    by_cases e : i = j
    · subst e
      by_cases q : i < (putBack rs os ρ).length
      · rw [List.getElem?_set_self q] at h
        cases h
        exact .inl ⟨0, rfl, rfl⟩
      · rw [List.getElem?_eq_none (by simpa using q)] at h; cases h
    · rw [List.getElem?_set_ne e] at h
      rcases pb_cases (by simpa using hl) h with ⟨k, h1, h2⟩ | ⟨h1, h2⟩
      · exact .inl ⟨k + 1, by simpa using h1, by simpa using h2⟩
      · refine .inr ⟨fun k z => ?_, h2⟩
        cases k with
        | zero => simp at z; exact e z
        | succ k => exact h1 k (by simpa using z)
  | .v y :: rs, o :: os, ρ, j, x, hl, h => by
    simp only [putBack] at h
    rcases pb_cases (by simpa using hl) h with ⟨k, h1, h2⟩ | ⟨h1, h2⟩
    · exact .inl ⟨k + 1, by simpa using h1, by simpa using h2⟩
    · refine .inr ⟨fun k z => ?_, h2⟩
      cases k with
      | zero => simp at z
      | succ k => exact h1 k (by simpa using z)
theorem kill_eq : ∀ (rs : List RV) (ρ : Env), kill rs ρ = putBack rs (List.replicate rs.length none) ρ
  | [], _ => rfl
  | .sl i :: rs, ρ => by simp only [kill, List.length_cons, List.replicate_succ, putBack, kill_eq rs ρ]
  | .v x :: rs, ρ => by simp only [kill, List.length_cons, List.replicate_succ, putBack, kill_eq rs ρ]

/-! ### what is handed over -/
abbrev Hand (xs : List XV) (vs : List V) (a : Addr) : Prop := Own (xs.map some) (vs.map some) a
theorem map_some {α : Type} {l : List α} {i : Nat} {x : α} : (l.map some)[i]? = some (some x) ↔ l[i]? = some x := by simp
/-- an object that is handed over is a new one, or one of our slots' -/
theorem hand_cases (re : RE K mg G ρ1 σ H1) (rv : RVl K mg G F ρ1 σ H1 rs vs) (ha : argsOf ρ1 rs = some xs) {i : Nat} {z : Addr} (h : OwnAt (xs.map some) (vs.map some) i z) :
    (∃ o, rs[i]? = some (.v (.own o)) ∧ G z ∧ ¬ F z ∧ RepO K mg (NN G ρ1 σ) H1 o z ∧ xs[i]? = some (.own o) ∧ ∀ (j : Nat) o, i < j → rs[j]? = some (.v (.own o)) → vs[j]? ≠ some (.ref z)) ∨ (∃ j, rs[i]? = some (.sl j) ∧ OwnAt ρ1 σ j z) := by
  obtain ⟨o, h1, h2⟩ := h
  rw [map_some] at h1 h2
  rcases args_get ha i _ h1 with e | ⟨j, e1, e2⟩
  · obtain ⟨y, e1, e2, e3, e4, e5⟩ := rv.ownAt i o e
    rw [h2] at e1; cases e1
    exact .inl ⟨o, e, e2, e3, e4, h1, e5⟩
  · obtain ⟨v, e3, e4⟩ := rv.slAt i j e1
    rw [h2] at e3; cases e3
    exact .inr ⟨j, e1, o, e2, e4⟩
theorem hand_nn (re : RE K mg G ρ1 σ H1) (rv : RVl K mg G F ρ1 σ H1 rs vs) (ha : argsOf ρ1 rs = some xs) {z : Addr} (h : Hand xs vs z) : NN G ρ1 σ z := by
  obtain ⟨i, h⟩ := h
  rcases hand_cases re rv ha h with ⟨o, _, g, _⟩ | ⟨j, _, q⟩
  · exact .inl g
  · exact .inr ⟨j, q⟩
/-- what the callee is not to touch -/
def Fc (G : NA) (ρ1 : Env) (σ : St) (xs : List XV) (vs : List V) : NA := fun a => NN G ρ1 σ a ∧ ¬ Hand xs vs a
theorem args_re (re : RE K mg G ρ1 σ H1) (rv : RVl K mg G F ρ1 σ H1 rs vs) (ha : argsOf ρ1 rs = some xs) (nd : (slots rs).Nodup) : RE K mg (Fc G ρ1 σ xs vs) (xs.map some) (vs.map some) H1 := by
  have w : ∀ z, NN (Fc G ρ1 σ xs vs) (xs.map some) (vs.map some) z → NN G ρ1 σ z := fun z q => q.elim (fun q => q.1) fun q => hand_nn re rv ha q
  refine ⟨by rw [List.length_map, List.length_map, args_len ha, rv.lens], fun i v h => ?_, fun i o h => ?_, fun i j z h1 h2 => ?_, fun z q => q.2, fun z q => ?_⟩
  · rw [map_some] at h
    rcases args_get ha i _ h with e | ⟨j, e1, e2⟩
    · obtain ⟨x, h1, h2⟩ := rv.pvAt i v e
      exact ⟨x, map_some.mpr h1, h2.weak w⟩
    · obtain ⟨x, h1, h2⟩ := re.pv j v e2
      obtain ⟨y, h3, h4⟩ := rv.slAt i j e1
      rw [h1] at h4; cases h4
      exact ⟨x, map_some.mpr h3, h2.weak w⟩
  · rw [map_some] at h
    rcases args_get ha i _ h with e | ⟨j, e1, e2⟩
    · obtain ⟨y, h1, _, _, h2, _⟩ := rv.ownAt i o e
      exact ⟨y, map_some.mpr h1, h2.weak w⟩
    · obtain ⟨y, h1, h2⟩ := re.own j o e2
      obtain ⟨u, h3, h4⟩ := rv.slAt i j e1
      rw [h1] at h4; cases h4
      exact ⟨y, map_some.mpr h3, h2.weak w⟩
  · have v1 : vs[i]? = some (.ref z) := by obtain ⟨_, _, q⟩ := h1; exact map_some.mp q
    have v2 : vs[j]? = some (.ref z) := by obtain ⟨_, _, q⟩ := h2; exact map_some.mp q
    rcases hand_cases re rv ha h1 with ⟨o1, e1, g1, n1, _, _, d1⟩ | ⟨k1, e1, q1⟩
    · rcases hand_cases re rv ha h2 with ⟨o2, e2, g2, n2, _, _, d2⟩ | ⟨k2, e2, q2⟩
      · rcases Nat.lt_trichotomy i j with q | q | q
        · exact absurd v2 (d1 j o2 q e2)
        · exact q
        · exact absurd v1 (d2 i o1 q e1)
      · exact absurd ⟨k2, q2⟩ (re.apart z g1)
    · rcases hand_cases re rv ha h2 with ⟨o2, e2, g2, n2, _, _, d2⟩ | ⟨k2, e2, q2⟩
      · exact absurd ⟨k1, q1⟩ (re.apart z g2)
      · have := re.dist k1 k2 z q1 q2
        subst this
        exact slots_inj nd e1 e2
  · rcases q.1 with q | q
    · exact re.there z q
    · exact re.isMut q
/-- whom the caller sees as an owner behind the call -/
theorem back_own (re : RE K mg G ρ1 σ H1) (rv : RVl K mg G F ρ1 σ H1 rs vs) (ha : argsOf ρ1 rs = some xs) (hl : outs.length = rs.length) (le : LeO outs (xs.map some)) : LeO (putBack rs outs ρ1) ρ1 := fun j o h => by
  rcases pb_cases hl h with ⟨i, h1, h2⟩ | ⟨_, h2⟩
  · obtain ⟨o', h3⟩ := le i o h2
    rw [map_some] at h3
    rcases args_get ha i _ h3 with e | ⟨j', e1, e2⟩
    · rw [h1] at e; cases e
    · rw [h1] at e1; cases e1
      exact ⟨o', e2⟩
  · exact ⟨o, h2⟩
theorem back_nn {Fp Fq : NA} (re : RE K mg G ρ1 σ H1) (rv : RVl K mg G F ρ1 σ H1 rs vs) (ha : argsOf ρ1 rs = some xs) (hl : outs.length = rs.length) (hF : ∀ z, Fp z → Fq z) (hq : ∀ z, Fc G ρ1 σ xs vs z → Fq z) : ∀ z, NN Fp (putBack rs outs ρ1) σ z → NN Fq outs (vs.map some) z := fun z q => by
  rcases q with q | ⟨j, o, h1, h2⟩
  · exact .inl (hF z q)
  · rcases pb_cases hl h1 with ⟨i, h3, h4⟩ | ⟨h3, h4⟩
    · obtain ⟨v, e1, e2⟩ := rv.slAt i j h3
      rw [h2] at e2; cases e2
      exact .inr ⟨i, o, h4, map_some.mpr e1⟩
    · refine .inl (hq z ⟨.inr ⟨j, o, h4, h2⟩, fun ⟨i, q⟩ => ?_⟩)
      rcases hand_cases re rv ha q with ⟨_, _, g, _⟩ | ⟨j', e1, q2⟩
      · exact re.apart z g ⟨j, o, h4, h2⟩
      · have := re.dist j j' z ⟨o, h4, h2⟩ q2
        subst this
        exact h3 i e1
theorem back_re {Fp Fq : NA} (re : RE K mg G ρ1 σ H1) (rv : RVl K mg G F ρ1 σ H1 rs vs) (ha : argsOf ρ1 rs = some xs) (nd : (slots rs).Nodup) (hl : outs.length = rs.length) (le : LeO outs (xs.map some)) (hF : ∀ z, Fp z → Fq z) (hq : ∀ z, Fc G ρ1 σ xs vs z → Fq z)
    (ap : ∀ z, Fp z → G z ∨ H1 z = none) (f : Fr (xs.map some) (vs.map some) H1 H2) (r : RE K mg Fq outs (vs.map some) H2) : RE K mg Fp (putBack rs outs ρ1) σ H2 := by
  have S1 := back_nn (outs := outs) (Fp := Fp) (Fq := Fq) re rv ha hl hF hq
  have lo := back_own re rv ha hl le
  have ra := args_re re rv ha nd
  have n2 : ∀ z, NN Fp (putBack rs outs ρ1) σ z → NN G ρ1 σ z ∨ H1 z = none := fun z q => q.elim (fun q => (ap z q).imp .inl id) fun q => .inl (.inr (q.mono lo))
  have hN : ∀ z, Own (xs.map some) (vs.map some) z → NN G ρ1 σ z := fun z q => hand_nn re rv ha q
  refine ⟨by rw [pb_len]; exact re.len, fun j v h => ?_, fun j o h => ?_, fun i j z h1 h2 => ?_, fun z q w => ?_, fun z q => r.there z (hF z q)⟩
  · rcases pb_cases hl h with ⟨i, h1, h2⟩ | ⟨h1, h2⟩
    · obtain ⟨x, e1, e2⟩ := r.pv i v h2
      obtain ⟨y, e3, e4⟩ := rv.slAt i j h1
      rw [map_some, e3] at e1; cases e1
      exact ⟨_, e4, e2.weak S1⟩
    · obtain ⟨x, e1, e2⟩ := re.pv j v h2
      exact ⟨x, e1, e2.go f ra n2 hN⟩
  · rcases pb_cases hl h with ⟨i, h1, h2⟩ | ⟨h1, h2⟩
    · obtain ⟨x, e1, e2⟩ := r.own i o h2
      obtain ⟨y, e3, e4⟩ := rv.slAt i j h1
      rw [map_some, e3] at e1; cases e1
      exact ⟨_, e4, e2.weak S1⟩
    · obtain ⟨x, e1, e2⟩ := re.own j o h2
      refine ⟨x, e1, ?_⟩
      cases e2 with
      | mk hx sh hs =>
        refine .mk (f.keep x _ hx sh.mut.nt fun ⟨i, q⟩ => ?_) sh (hs.go f ra n2 hN)
        rcases hand_cases re rv ha q with ⟨_, _, g, _⟩ | ⟨j', e3, q2⟩
        · exact re.apart x g ⟨j, _, h2, e1⟩
        · have := re.dist j j' x ⟨_, h2, e1⟩ q2
          subst this
          exact h1 i e3
  · obtain ⟨o1, e1, e2⟩ := h1
    obtain ⟨o2, e3, e4⟩ := h2
    obtain ⟨o1', e1'⟩ := lo i o1 e1
    obtain ⟨o2', e3'⟩ := lo j o2 e3
    exact re.dist i j z ⟨o1', e1', e2⟩ ⟨o2', e3', e4⟩
  · have w1 := w.mono lo
    rcases ap z q with q | q
    · exact re.apart z q w1
    · obtain ⟨ws, e, _⟩ := re.isMut w1
      rw [e] at q; cases q
theorem fr_back (f1 : Fr ρ σ H H1) (l1 : LeO ρ1 ρ) (re : RE K mg G ρ1 σ H1) (rv : RVl K mg G F ρ1 σ H1 rs vs) (ha : argsOf ρ1 rs = some xs) (hG : ∀ a, G a → F a ∨ H a = none) (f : Fr (xs.map some) (vs.map some) H1 H2) : Fr ρ σ H H2 := by
  refine ⟨fun z o h n q => f.keep z o (f1.keep z o h n q) n fun ⟨i, w⟩ => ?_, fun z o h => let ⟨o', h'⟩ := f1.up z o h; f.up z o' h'⟩
  rcases hand_cases re rv ha w with ⟨_, _, g, nf, _⟩ | ⟨j, _, q2⟩
  · rcases hG z g with g | g
    · exact nf g
    · rw [h] at g; cases g
  · exact q (Own.mono l1 ⟨j, q2⟩)

/-! ### a call -/
theorem call_reads {φ : List XV → FOut} {ds : List OP} {np : Nat} {Q : VK} (hφ : ∀ xs, xs.length ≠ np → φ xs = .bad) (h : tE K mg W (eCall φ ds) σ H Q) : tOs K mg W ds σ H fun vs H1 => spOf K mg np φ (vs ++ []) H1 Q (WE W σ) := by
  obtain ⟨F, ρ, re, g⟩ := h
  refine ⟨F, ρ, re, Go.bd g fun rs ρ1 H1 vs f1 l1 r1 g1 => ?_⟩
  rw [List.append_nil]
  obtain ⟨G, hF, hG, re1, rv⟩ := r1
  split at g1
  · rename_i nd
    split at g1
    · rename_i xs ha
      have ra := args_re re1 rv ha nd
      have hFc : ∀ z, F z → Fc G ρ1 σ xs vs z := fun z q => ⟨.inl (hF z q), fun ⟨i, w⟩ => by
        rcases hand_cases re1 rv ha w with ⟨_, _, g, nf, _⟩ | ⟨j, _, q2⟩
        · exact nf q
        · exact re1.apart z (hF z q) ⟨j, q2⟩⟩
      have hlen : xs.length = np := by
        apply Classical.byContradiction
        intro hn
        rw [hφ xs hn] at g1
        exact g1
      refine ⟨by rw [← rv.lens, ← args_len ha, hlen], Fc G ρ1 σ xs vs, xs, ra, ?_⟩
      split at g1
      · rename_i r outs hr
        try rw [hr]
        intro H2 v f2 le r2
        have ho : outs.length = rs.length := by have := r2.re.len; rw [List.length_map, ← rv.lens] at this; exact this
        have lo := back_own re1 rv ha ho le
        have ff := fr_back f1 l1 re1 rv ha hG f2
        refine g1 H2 v ff (lo.trans l1) ?_
        cases r with
        | pv q =>
          exact ⟨r2.1.weak (back_nn re1 rv ha ho hFc fun _ z => z), back_re re1 rv ha nd ho le hFc (fun _ z => z) (fun z q => .inl (hF z q)) f2 r2.2⟩
        | own o =>
          obtain ⟨z, rfl, h0, nf, no, ro, r3⟩ := r2
          have hFF : ∀ y, FF F z y → FF (Fc G ρ1 σ xs vs) z y := fun y q => q.imp (hFc y) id
          have S2 := back_nn (outs := outs) (Fp := FF F z) (Fq := FF (Fc G ρ1 σ xs vs) z) re1 rv ha ho hFF fun y q => .inl q
          refine ⟨z, rfl, f1.none h0, fun q => nf (hFc z q), fun q => ?_, ro.weak S2, back_re re1 rv ha nd ho le hFF (fun y q => .inl q) (fun y q => q.elim (fun q => .inl (hF y q)) fun q => .inr (by rw [q]; exact h0)) f2 r3⟩
          rcases back_nn (outs := outs) (Fp := F) (Fq := Fc G ρ1 σ xs vs) re1 rv ha ho hFc (fun _ z => z) z (.inr q) with q | q
          · exact nf q
          · exact no q
      · rename_i c fs hr
        try rw [hr]
        intro H2 cls d f2 rx
        have hl : (List.replicate rs.length (none : Option XV)).length = rs.length := by simp
        have le : LeO (List.replicate rs.length none) (xs.map some) := fun i o h => by
          rw [List.getElem?_replicate] at h
          split at h <;> cases h
        have r3 : RE K mg (Fc G ρ1 σ xs vs) (List.replicate rs.length none) (vs.map some) H2 := by
          refine ⟨by rw [List.length_map, hl]; exact rv.lens, fun i v h => ?_, fun i v h => ?_, fun i j z h1 h2 => ?_, fun z q w => ?_, fun z q => ?_⟩
          · rw [List.getElem?_replicate] at h
            split at h <;> cases h
          · rw [List.getElem?_replicate] at h
            split at h <;> cases h
          · obtain ⟨o, h, _⟩ := h1
            rw [List.getElem?_replicate] at h
            split at h <;> cases h
          · obtain ⟨i, o, h, _⟩ := w
            rw [List.getElem?_replicate] at h
            split at h <;> cases h
          · obtain ⟨o, h1, h2⟩ := ra.there z q
            exact ⟨o, f2.keep z o h1 h2.nt q.2, h2⟩
        have lo := back_own re1 rv ha hl le
        rw [kill_eq] at g1
        exact g1 H2 cls d (fr_back f1 l1 re1 rv ha hG f2) (lo.trans l1) (back_re re1 rv ha nd hl le hFc (fun _ z => z) (fun z q => .inl (hF z q)) f2 r3) rx
      · exact g1.elim
    · exact g1.elim
  · exact g1.elim
theorem starE (hs : isStar e = false) {env : PySem.Env} : starEach (e :: es) env = (false, eval e env) :: starEach es env := starEach_cons hs
theorem no_stars {d : OP} {ds : List OP} (ha : Paired (fun e d => isStar e = false ∧ PE X e (tO X.K X.mm W d)) (e :: es) (d :: ds)) : isStar e = false ∧ es.any isStar = false := by
  have : ∀ {es : List Expr} {ds : List OP}, Paired (fun e d => isStar e = false ∧ PE X e (tO X.K X.mm W d)) es ds → es.any isStar = false := fun {es ds} h => by
    induction h with
    | nil => rfl
    | cons h t ih => rw [List.any_cons, h.1, ih]; rfl
  have := this ha
  rw [List.any_cons, Bool.or_eq_false_iff] at this
  exact this
/-- f(e, ..), f a def of the module -/
theorem pe_defA {x : Str} {f : Addr} {fd : FuncData} {ps : List Str} {k np : Nat} {φ : List XV → FOut} {d : OP} {ds : List OP} (FO : FnOk X.prog X.w X.K X.mm X.base (L2.CX X.prog X.w) k f fd ps (spOf X.K X.mm np φ)) (hφ : ∀ xs, xs.length ≠ np → φ xs = .bad) (hr : Room k X.A) (tk : Takes X W)
    (hg : Gl X x) (hm : X.mg x = some (.ref f)) (hk : PySem.W.keepIn X.K (.ref f) = true) (hb : Binds X.K fd ps []) (hdb : (x == ("__debug__" : Str)) = false)
    (ha : Paired (fun e d => isStar e = false ∧ PE X e (tO X.K X.mm W d)) (e :: es) (d :: ds)) : PE X (.Call (.Name x p) (e :: es) [] pos) (tE X.K X.mm W (eCall φ (d :: ds))) := by
  have h1 := no_stars ha
  exact PE.imp (pe_callSD (E := WE W) (dvs := []) (ds := []) FO hr hg hm hk hb .nil (fun σ => passAt tk σ) (pa_ops ha) hdb (starEach_cons h1.1) (any_star h1.2)) fun σ H Q h => call_reads hφ h
/-- the slot i holds a def -/
theorem pe_slotA {x : Str} {i : Nat} {k : Nat} {ok : Str → Bool} {Φ : Str → List XV → FOut} {d : OP} {ds : List OP}
    (FO : ∀ g, ok g = true → ∃ f fd ps np, X.mg g = some (.ref f) ∧ FnOk X.prog X.w X.K X.mm X.base (L2.CX X.prog X.w) k f fd ps (spOf X.K X.mm np (Φ g)) ∧ (∀ xs, xs.length ≠ np → Φ g xs = .bad) ∧ PySem.W.keepIn X.K (.ref f) = true ∧ Binds X.K fd ps []) (hr : Room k X.A) (tk : Takes X W)
    (hN : X.N[i]? = some x) (hv : Vis X.env.scope x) (hdb : (x == ("__debug__" : Str)) = false) (hcd : (x == ("__classdict__" : Str)) = false)
    (ha : Paired (fun e d => isStar e = false ∧ PE X e (tO X.K X.mm W d)) (e :: es) (d :: ds)) : PE X (.Call (.Name x p) (e :: es) [] pos) (tE X.K X.mm W (eCallV ok Φ i (d :: ds))) := by
  have h1 := no_stars ha
  refine ⟨fun pins s σ H Q I h => ?_⟩
  obtain ⟨F, ρ, re, g⟩ := h
  simp only [eCallV] at g
  split at g
  · rename_i y hy
    split at g
    · rename_i hok
      obtain ⟨v, e1, e2⟩ := re.pv i _ hy
      cases e2 with
      | obj _ _ sh _ => cases sh
      | fn hm =>
        rename_i fa
        obtain ⟨f, fd, ps, np, hm2, FO, hφ, hk, hb⟩ := FO y hok
        have hm2 := Option.some.inj ((show X.mm.f y = some (.ref f) from hm2).symm.trans hm); cases hm2
        have hT : tE X.K X.mm W (eCall (Φ y) (d :: ds)) σ H Q := ⟨F, ρ, re, g⟩
        refine wpAny_Call_Name_kw (thn ((pe_var (pos := p) hN hv hdb hcd).run pins s σ H (fun v H1 => v = .ref fa ∧ H1 = H) I ⟨.ref fa, e1, rfl, rfl⟩) fun u s1 hu => ?_)
        obtain ⟨v, H1, I1, r1, rfl, rfl⟩ := hu
        cases r1
        refine PySem.W.callWith_K (h₀ := X.base) I.ok.mod.kin hk (thn ((pa_ops ha).run pos pins s1 σ _ _ I1 (call_reads hφ hT)) fun us s2 hu => ?_) (starEach_cons h1.1) (any_star h1.2)
        obtain ⟨vs, H2, I2, r, q⟩ := hu
        exact ⟨I2.kIn, run_fnSD (E := WE W) (dvs := []) (ds := []) FO hr hb .nil (passAt tk σ) I2 r q⟩
    · exact g.elim
  · exact g.elim
end
end Pi

/-! Pi, part 11: targets; list comprehensions. -/
namespace Pi
open PySem PySem.Spec L2
def OthS (vs : List Nat) (σ σ' : St) : Prop := σ'.length = σ.length ∧ ∀ i, i ∉ vs → σ'[i]? = σ[i]?
def OthE (vs : List Nat) (ρ ρ' : Env) : Prop := ρ'.length = ρ.length ∧ ∀ i, i ∉ vs → ρ'[i]? = ρ[i]?
section
variable {X : Cx} {K : PySem.W.Frag} {mg : MG} {N N' F F' F1 G : NA} {H H' H0 H1 H2 : Hp} {ρ ρ' ρ1 ρ2 : Env} {σ σ' σ1 σ2 : St} {W : WX}
variable {a b c e : Expr} {es : List Expr} {pos p : Pos} {vs : List Nat}
theorem OthS.trans {u v : List Nat} (h : OthS u σ σ1) (g : OthS v σ1 σ2) : OthS (u ++ v) σ σ2 := ⟨g.1.trans h.1, fun i n => (g.2 i fun z => n (List.mem_append_right _ z)).trans (h.2 i fun z => n (List.mem_append_left _ z))⟩
theorem OthE.trans {u v : List Nat} (h : OthE u ρ ρ1) (g : OthE v ρ1 ρ2) : OthE (u ++ v) ρ ρ2 := ⟨g.1.trans h.1, fun i n => (g.2 i fun z => n (List.mem_append_right _ z)).trans (h.2 i fun z => n (List.mem_append_left _ z))⟩

/-! ### a slot is stored -/
theorem own_setI {i j : Nat} {x : XV} {v : V} {z : Addr} (h : OwnAt (ρ.set i (some x)) (σ.set i (some v)) j z) : OwnAt ρ σ j z ∨ (∃ o, x = .own o ∧ v = .ref z) := by
  obtain ⟨o, h1, h2⟩ := h
  by_cases e : i = j
  · subst e
    have hl : i < ρ.length := by have := (List.getElem?_eq_some_iff.mp h1).1; simpa using this
    have hs : i < σ.length := by have := (List.getElem?_eq_some_iff.mp h2).1; simpa using this
    rw [List.getElem?_set_self hl] at h1; rw [List.getElem?_set_self hs] at h2
    cases h1; cases h2
    exact .inr ⟨o, rfl, rfl⟩
  · rw [List.getElem?_set_ne e] at h1 h2
    exact .inl ⟨o, h1, h2⟩
theorem own_set {i : Nat} {x : XV} {v : V} {z : Addr} (h : Own (ρ.set i (some x)) (σ.set i (some v)) z) : Own ρ σ z ∨ (∃ o, x = .own o ∧ v = .ref z) := by
  obtain ⟨j, h⟩ := h
  exact (own_setI h).imp (fun q => ⟨j, q⟩) id
theorem RE.put {i : Nat} {x : XV} {v : V} (h : RX K mg F ρ σ H0 H x v) : RE K mg F (ρ.set i (some x)) (σ.set i (some v)) H := by
  cases x with
  | pv q =>
    obtain ⟨h1, r⟩ := h
    have w : ∀ z, NN F (ρ.set i (some (.pv q))) (σ.set i (some v)) z → NN F ρ σ z := fun z q => q.imp id fun q => (own_set q).elim id fun ⟨o, e, _⟩ => by cases e
    refine ⟨by simp [r.len], fun j u hj => ?_, fun j o hj => ?_, fun j k z h1 h2 => ?_, fun z q t => ?_, r.there⟩
    · by_cases e : i = j
      · subst e
        have hl : i < ρ.length := by have := (List.getElem?_eq_some_iff.mp hj).1; simpa using this
        rw [List.getElem?_set_self hl] at hj; cases hj
        exact ⟨v, by rw [List.getElem?_set_self (by rw [← r.len]; exact hl)], h1.weak w⟩
      · rw [List.getElem?_set_ne e] at hj ⊢
        obtain ⟨y, h2, h3⟩ := r.pv j u hj
        exact ⟨y, h2, h3.weak w⟩
    · by_cases e : i = j
      · subst e
        have hl : i < ρ.length := by have := (List.getElem?_eq_some_iff.mp hj).1; simpa using this
        rw [List.getElem?_set_self hl] at hj; cases hj
      · rw [List.getElem?_set_ne e] at hj ⊢
        obtain ⟨y, h2, h3⟩ := r.own j o hj
        exact ⟨y, h2, h3.weak w⟩
    · obtain ⟨o1, e1, e2⟩ := h1
      obtain ⟨o2, e3, e4⟩ := h2
      obtain ⟨n1, e1⟩ := set_own e1
      obtain ⟨n2, e3⟩ := set_own e3
      rw [List.getElem?_set_ne (Ne.symm n1)] at e2
      rw [List.getElem?_set_ne (Ne.symm n2)] at e4
      exact r.dist j k z ⟨o1, e1, e2⟩ ⟨o2, e3, e4⟩
    · rcases own_set t with t | ⟨o, e, _⟩
      · exact r.apart z q t
      · cases e
  | own o =>
    obtain ⟨y, rfl, h0, nF, nO, ro, r⟩ := h
    have w : ∀ z, NN F (ρ.set i (some (.own o))) (σ.set i (some (.ref y))) z → NN (FF F y) ρ σ z := fun z q => q.elim (fun q => .inl (.inl q)) fun q => (own_set q).elim .inr fun ⟨o, _, e⟩ => by cases e; exact .inl (.inr rfl)
    refine ⟨by simp [r.len], fun j u hj => ?_, fun j o' hj => ?_, fun j k z h1 h2 => ?_, fun z q t => ?_, fun z q => r.there z (.inl q)⟩
    · by_cases e : i = j
      · subst e
        have hl : i < ρ.length := by have := (List.getElem?_eq_some_iff.mp hj).1; simpa using this
        rw [List.getElem?_set_self hl] at hj; cases hj
      · rw [List.getElem?_set_ne e] at hj ⊢
        obtain ⟨y, h2, h3⟩ := r.pv j u hj
        exact ⟨y, h2, h3.weak w⟩
    · by_cases e : i = j
      · subst e
        have hl : i < ρ.length := by have := (List.getElem?_eq_some_iff.mp hj).1; simpa using this
        rw [List.getElem?_set_self hl] at hj; cases hj
        exact ⟨y, by rw [List.getElem?_set_self (by rw [← r.len]; exact hl)], ro.weak w⟩
      · rw [List.getElem?_set_ne e] at hj ⊢
        obtain ⟨y, h2, h3⟩ := r.own j o' hj
        exact ⟨y, h2, h3.weak w⟩
    · obtain ⟨o1, e1, e2⟩ := h1
      obtain ⟨o2, e3, e4⟩ := h2
      by_cases ej : i = j
      · by_cases ek : i = k
        · exact ej.symm.trans ek
        · rw [List.getElem?_set_ne ek] at e3 e4
          subst ej
          have hs : i < σ.length := by have := (List.getElem?_eq_some_iff.mp e2).1; simpa using this
          rw [List.getElem?_set_self hs] at e2; cases e2
          exact absurd ⟨k, o2, e3, e4⟩ nO
      · rw [List.getElem?_set_ne ej] at e1 e2
        by_cases ek : i = k
        · subst ek
          have hs : i < σ.length := by have := (List.getElem?_eq_some_iff.mp e4).1; simpa using this
          rw [List.getElem?_set_self hs] at e4; cases e4
          exact absurd ⟨j, o1, e1, e2⟩ nO
        · rw [List.getElem?_set_ne ek] at e3 e4
          exact r.dist j k z ⟨o1, e1, e2⟩ ⟨o2, e3, e4⟩
    · rcases own_set t with t | ⟨o, _, e⟩
      · exact r.apart z (.inl q) t
      · cases e; exact nF q

/-! ### targets -/
mutual
inductive TGOk (X : Cx) : Expr → Pi.TG → Prop
  | nm {i : Nat} {x : Str} {pos : Pos} : X.N[i]? = some x → Loc X.env.scope x → (X.fn x = true ∨ X.env.scope.names.lookup x = some .local) → TGOk X (.Name x pos) (.nm i)
  | tp {es : List Expr} {k : Nat} {pos : Pos} {ts : List Pi.TG} : TGsOk X es ts → TGOk X (.Tuple es k pos) (.tp ts)
inductive TGsOk (X : Cx) : List Expr → List Pi.TG → Prop
  | nil : TGsOk X [] []
  | cons {e : Expr} {es : List Expr} {t : Pi.TG} {ts : List Pi.TG} : TGOk X e t → TGsOk X es ts → TGsOk X (e :: es) (t :: ts)
end
def tGp (K : PySem.W.Frag) (mg : MG) (g : Pi.TG) : L2.TG := fun v σ H Q => ∃ F ρ p, RepV K mg (NN F ρ σ) H p v ∧ RE K mg F ρ σ H ∧ ∃ ρ', bT g (.pv p) ρ = .ok () ρ' ∧ ∀ σ', RE K mg F ρ' σ' H → OthS (tgS g) σ σ' → OthE (tgS g) ρ ρ' → (∀ j z, OwnAt ρ' σ' j z → OwnAt ρ σ j z) → Q σ' H
def tGps (K : PySem.W.Frag) (mg : MG) (gs : List Pi.TG) : L2.TGs := fun vs σ H Q => ∃ F ρ ps, RepVs K mg (NN F ρ σ) H ps vs ∧ RE K mg F ρ σ H ∧ ∃ ρ', bTs gs ps ρ = .ok () ρ' ∧ ∀ σ', RE K mg F ρ' σ' H → OthS (tgsS gs) σ σ' → OthE (tgsS gs) ρ ρ' → (∀ j z, OwnAt ρ' σ' j z → OwnAt ρ σ j z) → Q σ' H
theorem PG.imp {t t' : L2.TG} (h : PG X e t) (i : ∀ v σ H Q, t' v σ H Q → t v σ H Q) : PG X e t' := ⟨fun pins s σ H v u Q I r q => h.run pins s σ H v u Q I r (i v σ H Q q)⟩
theorem PGs.imp {t t' : L2.TGs} (h : PGs X es t) (i : ∀ v σ H Q, t' v σ H Q → t v σ H Q) : PGs X es t' := ⟨fun pins s σ H v u Q I r q => h.run pins s σ H v u Q I r (i v σ H Q q)⟩
theorem oth_set {i : Nat} {v : V} : OthS [i] σ (σ.set i (some v)) := ⟨by simp, fun j n => by rw [List.getElem?_set_ne (fun e => n (by simp [e]))]⟩
theorem othE_set {i : Nat} {v : XV} : OthE [i] ρ (ρ.set i (some v)) := ⟨by simp, fun j n => by rw [List.getElem?_set_ne (fun e => n (by simp [e]))]⟩
theorem each_cons {env : PySem.Env} {g : Pi.TG} (h : TGOk X e g) : assignEach (e :: es) env = (false, assign e env) :: assignEach es env := by
  cases h <;> rfl
theorem each_len {env : PySem.Env} : ∀ {es : List Expr} {gs : List Pi.TG}, TGsOk X es gs → (assignEach es env).length = gs.length ∧ (assignEach es env).findIdx? (·.1) = none
  | _, _, .nil => ⟨rfl, rfl⟩
  | _, _, .cons h t => by
    obtain ⟨h1, h2⟩ := each_len (env := env) t
    rw [each_cons h]
    refine ⟨by simp [h1], ?_⟩
    rw [List.findIdx?_cons]
    simp [h2]
theorem bTs_len : ∀ {gs : List Pi.TG} {ps : List PV} {ρ ρ' : Env}, bTs gs ps ρ = .ok () ρ' → ps.length = gs.length
  | [], [], _, _, _ => rfl
  | [], _ :: _, _, _, h => by simp [bTs] at h
  | _ :: _, [], _, _, h => by simp [bTs] at h
  | g :: gs, q :: ps, ρ, ρ', h => by
    simp only [bTs] at h
    cases h1 : bT g (.pv q) ρ with
    | ok _ ρ1 =>
      rw [h1] at h
      simp only [Out.bd] at h
      simp [bTs_len h]
    | exc c fs ρ1 => rw [h1] at h; cases h
    | bad => rw [h1] at h; cases h
mutual
theorem pg_ok (hc : X.calm = true) (hN : X.N.Nodup) : ∀ {e : Expr} {g : Pi.TG}, TGOk X e g → PG X e (tGp X.K X.mm g)
  | _, _, .nm h1 h2 h3 => PG.imp (pg_name hN h1 h2 h3) fun v σ H Q h => by
    obtain ⟨F, ρ, p, r, re, ρ', hb, k⟩ := h
    rw [bT] at hb
    cases hb
    exact k _ (RE.put (H0 := H) (x := .pv p) ⟨r, re⟩) oth_set othE_set fun j z q => (own_setI q).elim id fun ⟨o, e, _⟩ => by cases e
  | _, _, .tp (ts := ts) h => by
    refine PG.imp (pg_tup (n := ts.length) hc (pgs_ok hc hN h) (each_len h).1 (each_len h).2) fun v σ H Q h => ?_
    obtain ⟨F, ρ, p, r, re, ρ', hb, k⟩ := h
    rw [bT] at hb
    cases p with
    | tup ps =>
      cases r with
      | tup ht hs => exact ⟨_, _, rfl, ht, by rw [← hs.length]; exact bTs_len hb, F, ρ, ps, hs, re, ρ', hb, k⟩
      | obj _ _ sh _ => cases sh
    | _ => cases hb
theorem pgs_ok (hc : X.calm = true) (hN : X.N.Nodup) : ∀ {es : List Expr} {gs : List Pi.TG}, TGsOk X es gs → PGs X es (tGps X.K X.mm gs)
  | _, _, .nil => PGs.imp pgs_nil fun vs σ H Q h => by
    obtain ⟨F, ρ, ps, r, re, ρ', hb, k⟩ := h
    cases ps with
    | nil =>
      cases r
      rw [bTs] at hb; cases hb
      exact ⟨rfl, k σ re ⟨rfl, fun _ _ => rfl⟩ ⟨rfl, fun _ _ => rfl⟩ fun _ _ q => q⟩
    | cons q qs => rw [bTs] at hb; cases hb; all_goals simp
  | _, _, .cons (ts := ts) h t => by
    refine PGs.imp (pgs_cons (pg_ok hc hN h) (pgs_ok hc hN t) (by rw [each_cons h]; rfl)) fun vs σ H Q h => ?_
    obtain ⟨F, ρ, ps, r, re, ρ', hb, k⟩ := h
    cases r with
    | nil => rw [bTs] at hb; cases hb; all_goals simp
    | cons r rr =>
      rename_i p v ps vs
      rw [bTs] at hb
      cases h1 : bT _ (.pv p) ρ with
      | ok _ ρ1 =>
        rw [h1] at hb
        simp only [Out.bd] at hb
        refine ⟨v, vs, rfl, F, ρ, p, r, re, ρ1, h1, fun σ1 re1 os oe ow => ?_⟩
        exact ⟨F, ρ1, ps, rr.weak fun z q => q.imp id fun ⟨j, q⟩ => ⟨j, ow j z q⟩, re1, ρ', hb, fun σ2 re2 os2 oe2 ow2 => k σ2 re2 (os.trans os2) (oe.trans oe2) fun j z q => ow j z (ow2 j z q)⟩
      | exc c fs ρ1 => rw [h1] at hb; cases hb
      | bad => rw [h1] at hb; cases hb
end
def tGx (K : PySem.W.Frag) (mg : MG) (g : Pi.TG) : L2.TG := fun v σ H Q => ∃ F ρ x H0, RX K mg F ρ σ H0 H x v ∧ ∃ ρ', bT g x ρ = .ok () ρ' ∧ ∀ σ', RE K mg F ρ' σ' H → OthS (tgS g) σ σ' → OthE (tgS g) ρ ρ' → (∀ j z, OwnAt ρ' σ' j z → OwnAt ρ σ j z ∨ H0 z = none) → Q σ' H
theorem pg_x (hc : X.calm = true) (hN : X.N.Nodup) {g : Pi.TG} (h : TGOk X e g) : PG X e (tGx X.K X.mm g) := by
  cases h with
  | nm h1 h2 h3 =>
    refine PG.imp (pg_name hN h1 h2 h3) fun v σ H Q h => ?_
    obtain ⟨F, ρ, x, H0, r, ρ', hb, k⟩ := h
    rw [bT] at hb
    cases hb
    refine k _ (RE.put r) oth_set othE_set fun j z q => (own_setI q).imp id fun ⟨o, e1, e2⟩ => ?_
    subst e1 e2
    obtain ⟨y, e, h0, _⟩ := r
    cases e; exact h0
  | tp h =>
    refine PG.imp (pg_ok hc hN (.tp h)) fun v σ H Q h => ?_
    obtain ⟨F, ρ, x, H0, r, ρ', hb, k⟩ := h
    cases x with
    | pv q => exact ⟨F, ρ, q, r.1, r.2, ρ', hb, fun σ' a b c d => k σ' a b c fun j z q => .inl (d j z q)⟩
    | own o =>
      obtain ⟨y, _, _, _, _, ro, _⟩ := r
      cases ro with
      | mk _ sh _ => cases sh <;> (rw [bT] at hb; cases hb)

/-! ### the names of a block -/
theorem wipeE_some {i : Nat} {x : XV} : ∀ {vs : List Nat}, (Pi.wipe vs ρ)[i]? = some (some x) → ρ[i]? = some (some x) ∧ i ∉ vs
  | [], h => ⟨h, by simp⟩
  | v :: vs, h => by
    rw [Pi.wipe] at h
    by_cases e : v = i
    · subst e
      by_cases hl : v < (Pi.wipe vs ρ).length
      · rw [List.getElem?_set_self hl] at h; cases h
      · rw [List.getElem?_eq_none (by simpa using hl)] at h; cases h
    · rw [List.getElem?_set_ne e] at h
      obtain ⟨h1, h2⟩ := wipeE_some h
      exact ⟨h1, by simp only [List.mem_cons, not_or]; exact ⟨fun z => e z.symm, h2⟩⟩
theorem wipeE_len : ∀ (vs : List Nat) (ρ : Env), (Pi.wipe vs ρ).length = ρ.length
  | [], _ => rfl
  | v :: vs, ρ => by rw [Pi.wipe, List.length_set, wipeE_len vs ρ]
theorem wipeE_out {i : Nat} : ∀ {vs : List Nat}, i ∉ vs → (Pi.wipe vs ρ)[i]? = ρ[i]?
  | [], _ => rfl
  | v :: vs, h => by
    simp only [List.mem_cons, not_or] at h
    rw [Pi.wipe, List.getElem?_set_ne (Ne.symm h.1), wipeE_out h.2]
theorem own_wipe {z : Addr} (h : Own (Pi.wipe vs ρ) (L2.wipe σ vs) z) : Own ρ σ z := by
  obtain ⟨i, o, h1, h2⟩ := h
  obtain ⟨h3, h4⟩ := wipeE_some h1
  rw [L2.wipe_out h4] at h2
  exact ⟨i, o, h3, h2⟩
theorem RE.wipe (r : RE K mg F ρ σ H) (vs : List Nat) : RE K mg F (Pi.wipe vs ρ) (L2.wipe σ vs) H := by
  have w : ∀ z, NN F (Pi.wipe vs ρ) (L2.wipe σ vs) z → NN F ρ σ z := fun z q => q.imp id own_wipe
  refine ⟨by rw [wipeE_len, L2.wipe_length]; exact r.len, fun i v h => ?_, fun i o h => ?_, fun i j z h1 h2 => ?_, fun z q t => r.apart z q (own_wipe t), r.there⟩
  · obtain ⟨h3, h4⟩ := wipeE_some h
    obtain ⟨x, e1, e2⟩ := r.pv i v h3
    exact ⟨x, by rw [L2.wipe_out h4]; exact e1, e2.weak w⟩
  · obtain ⟨h3, h4⟩ := wipeE_some h
    obtain ⟨x, e1, e2⟩ := r.own i o h3
    exact ⟨x, by rw [L2.wipe_out h4]; exact e1, e2.weak w⟩
  · obtain ⟨o1, e1, e2⟩ := h1
    obtain ⟨o2, e3, e4⟩ := h2
    obtain ⟨a1, a2⟩ := wipeE_some e1
    obtain ⟨b1, b2⟩ := wipeE_some e3
    rw [L2.wipe_out a2] at e2
    rw [L2.wipe_out b2] at e4
    exact r.dist i j z ⟨o1, a1, e2⟩ ⟨o2, b1, e4⟩
theorem wipeS_some {σ : St} {i : Nat} : ∀ {vs : List Nat}, i ∈ vs → i < σ.length → (L2.wipe σ vs)[i]? = some none
  | v :: vs, h, hl => by
    rw [L2.wipe]
    by_cases e : v = i
    · subst e
      rw [List.getElem?_set_self (by rw [L2.wipe_length]; exact hl)]
    · rw [List.getElem?_set_ne e]
      exact wipeS_some ((List.mem_cons.mp h).resolve_left fun z => e z.symm) hl
/-- only the block's own names were stored -/
theorem wipe_oth {u : List Nat} (h : OthS u (L2.wipe σ vs) σ2) (hu : ∀ i ∈ u, i ∈ vs) : L2.wipe σ2 vs = L2.wipe σ vs := by
  apply List.ext_getElem?
  intro i
  by_cases hi : i ∈ vs
  · by_cases hl : i < σ.length
    · rw [wipeS_some hi (by rw [h.1, L2.wipe_length]; exact hl), wipeS_some hi hl]
    · rw [List.getElem?_eq_none (by rw [L2.wipe_length, h.1, L2.wipe_length]; omega), List.getElem?_eq_none (by rw [L2.wipe_length]; omega)]
  · rw [L2.wipe_out hi, h.2 i fun z => hi (hu i z)]
theorem back_out {ρ0 : Env} {i : Nat} : ∀ {vs : List Nat}, i ∉ vs → (back vs ρ0 ρ)[i]? = ρ[i]?
  | [], _ => rfl
  | v :: vs, h => by
    simp only [List.mem_cons, not_or] at h
    rw [back, List.getElem?_set_ne (Ne.symm h.1), back_out h.2]
theorem back_len {ρ0 : Env} : ∀ (vs : List Nat) (ρ : Env), (back vs ρ0 ρ).length = ρ.length
  | [], _ => rfl
  | v :: vs, ρ => by rw [back, List.length_set, back_len vs ρ]
theorem back_in {ρ0 : Env} {i : Nat} {x : XV} : ∀ {vs : List Nat}, i ∈ vs → (back vs ρ0 ρ)[i]? = some (some x) → ρ0[i]? = some (some x)
  | v :: vs, hm, h => by
    rw [back] at h
    by_cases e : v = i
    · subst e
      by_cases hl : v < (back vs ρ0 ρ).length
      · rw [List.getElem?_set_self hl] at h
        cases q : ρ0[v]? with
        | none => rw [q] at h; cases h
        | some y => rw [q] at h; exact h
      · rw [List.getElem?_eq_none (by simpa using hl)] at h; cases h
    · rw [List.getElem?_set_ne e] at h
      exact back_in ((List.mem_cons.mp hm).resolve_left fun z => e z.symm) h
theorem noOwn_at {i : Nat} {o : PV} : ∀ {vs : List Nat}, noOwn vs ρ = true → i ∈ vs → ρ[i]? ≠ some (some (.own o))
  | v :: vs, h, hm, e => by
    rw [noOwn, Bool.and_eq_true] at h
    rcases List.mem_cons.mp hm with z | z
    · subst z
      rw [e] at h
      exact absurd h.1 (by simp)
    · exact noOwn_at h.2 z e

/-! ### the new list grows -/
theorem RepV.updD {D : Addr} {ob ob' : HO} {p : PV} {v : V} (hD : H D = some ob) (mD : Mut ob) (nD : N D) (h : RepV K mg N H p v) : RepV K mg N (upd H D ob') p v := by
  have ne1 : ∀ b ys, H b = some (.tup ys) → b ≠ D := fun b ys e z => by subst z; rw [hD] at e; exact mD.2.1 _ (Option.some.inj e)
  have ne2 : ∀ b q ys, H b = some (.frz q ys) → b ≠ D := fun b q ys e z => by subst z; rw [hD] at e; exact mD.2.2 _ _ (Option.some.inj e)
  refine h.mono (fun b ys t => ?_) (fun b ys t m n => ?_) fun b ns t => ?_
  · rcases t with (t | ⟨o, t⟩) | t
    · exact .inl (.inl (by rw [upd_ne (ne1 b _ t)]; exact t))
    · exact .inl (.inr ⟨o, by rw [upd_ne (ne2 b _ _ t)]; exact t⟩)
    · exact .inr t
  · have : b ≠ D := fun z => n (z ▸ nD)
    exact ⟨by rw [upd_ne this]; exact t, n⟩
  · rcases t with ⟨o, t⟩ | t
    · exact .inl ⟨o, by rw [upd_ne (ne2 b _ _ t)]; exact t⟩
    · exact .inr t
theorem RepVs.updD {D : Addr} {ob ob' : HO} (hD : H D = some ob) (mD : Mut ob) (nD : N D) : ∀ {p : List PV} {v : List V}, RepVs K mg N H p v → RepVs K mg N (upd H D ob') p v
  | _, _, .nil => .nil
  | _, _, .cons h t => .cons (h.updD hD mD nD) (RepVs.updD hD mD nD t)
theorem RE.updD {D : Addr} {ob ob' : HO} (r : RE K mg F ρ σ H) (hD : H D = some ob) (mD : Mut ob) (mD' : Mut ob') (nD : F D) : RE K mg F ρ σ (upd H D ob') := by
  refine ⟨r.len, fun i v h => ?_, fun i o h => ?_, r.dist, r.apart, fun z q => ?_⟩
  · obtain ⟨x, h1, h2⟩ := r.pv i v h
    exact ⟨x, h1, h2.updD hD mD (.inl nD)⟩
  · obtain ⟨x, h1, h2⟩ := r.own i o h
    refine ⟨x, h1, ?_⟩
    cases h2 with
    | mk hx sh hs =>
      have : x ≠ D := fun z => r.apart D nD (z ▸ ⟨i, _, h, h1⟩)
      exact .mk (by rw [upd_ne this]; exact hx) sh (hs.updD hD mD (.inl nD))
  · by_cases e : z = D
    · subst e
      exact ⟨_, upd_same, mD'⟩
    · rw [upd_ne e]
      exact r.there z q
/-- the frame, but for the new list -/
structure FrD (D : Addr) (ρ : Env) (σ : St) (H H' : Hp) : Prop where
  keep : ∀ a o, H a = some o → noTbl o → ¬ Own ρ σ a → a ≠ D → H' a = some o
  up : ∀ a o, H a = some o → ∃ o', H' a = some o'
theorem FrD.fr {D : Addr} (f : FrD D ρ σ H H') (h : H D = none) : Fr ρ σ H H' := ⟨fun a o e n q => f.keep a o e n q fun z => (by subst z; rw [h] at e; cases e), f.up⟩
theorem FrD.refl (D : Addr) (ρ : Env) (σ : St) (H : Hp) : FrD D ρ σ H H := ⟨fun _ _ h _ _ _ => h, fun _ o h => ⟨o, h⟩⟩
theorem FrD.step {D : Addr} (f : FrD D ρ σ H H1) (g : Fr ρ1 σ1 H1 H2) (w : ∀ a, Own ρ1 σ1 a → Own ρ σ a ∨ H a = none) : FrD D ρ σ H H2 :=
  ⟨fun a o h n q d => g.keep a o (f.keep a o h n q d) n fun z => (w a z).elim q fun z => (by rw [h] at z; cases z), fun a o h => let ⟨o', h'⟩ := f.up a o h; g.up a o' h'⟩
theorem FrD.upd {D : Addr} {o : HO} (f : FrD D ρ σ H H1) : FrD D ρ σ H (upd H1 D o) :=
  ⟨fun a o' h n q d => by rw [upd_ne d]; exact f.keep a o' h n q d, fun a o' h => by
    by_cases e : a = D
    · subst e; exact ⟨_, upd_same⟩
    · rw [upd_ne e]; exact f.up a o' h⟩

/-! ### a comprehension's loop -/
abbrev W0 : WX := fun _ _ _ _ => False
theorem RepVs.snoc {xs : List PV} {ys : List V} {x : PV} {y : V} (h : RepVs K mg N H xs ys) (r : RepV K mg N H x y) : RepVs K mg N H (xs ++ [x]) (ys ++ [y]) := h.append (.cons r .nil)
/-- a new value at the end of the new list -/
theorem RX.kept {D : Addr} {x : XV} {v : V} (h : RX K mg F ρ σ H0 H x v) : RepV K mg (NN F ρ σ) H x.val v := by
  cases x with
  | pv q => exact h.1
  | own o =>
    obtain ⟨y, rfl, _, nF, nO, r, _⟩ := h
    cases r with
    | mk e sh hs => exact .obj e (fun z => z.elim nF nO) sh (hs.weak fun b z => z.imp .inl id)
theorem lc_loop {J : It} {xs : List PV} {ρs ρF : Env} {σs : St} {Hs : Hp} {D : Addr} {vs : List Nat} {g : Pi.TG} {tt : T} {te : E} {tot done0 : List PV} {acc0 : List V} {FD : NA} {End : Hp → Prop}
    (hvs : ∀ i ∈ tgS g, i ∈ vs) (wk : Wlk K mg F G ρ1 σ1 H1 J xs) (hw : L2.wipe σs vs = σs)
    (fr0 : FrF F ρ1 σ1 H1 Hs) (lw0 : LeW ρ1 σ1 H1 ρs σs) (hFD : ∀ a, FD a → G a ∨ H1 a = none) (hGF : ∀ a, G a → FD a) (hD1 : F D ∨ H1 D = none) (hDF : FD D)
    (re0 : RE K mg FD ρs σs Hs) (hD0 : Hs D = some (.lst acc0)) (rd0 : RepVs K mg (NN FD ρs σs) Hs done0 acc0) (run : lcL vs g tt te xs ρs = .ok tot ρF) (hlen : (done0 ++ tot).length ≤ szL)
    (hEnd : ∀ Hc acc, FrD D ρs σs Hs Hc → LeO ρF ρs → RE K mg FD ρF σs Hc → Hc D = some (.lst acc) → RepVs K mg (NN FD ρF σs) Hc (done0 ++ tot) acc → End Hc) :
    ∃ Wm : Nat → Nat → Hp → Prop, (∃ m, Wm 0 m Hs) ∧ ∀ i m Hc, Wm i m Hc →
      (J.stop i Hc ∧ End Hc) ∨ (J.go i Hc ∧ ∃ Nx : Hp → Prop, (∀ H', Nx H' → ∃ m', m' < m ∧ Wm (i + 1) m' H') ∧ ∀ x H', J.yld i Hc x H' → tGp K mg g x σs H' fun σ2 H2 => L2.wipe σ2 vs = σs ∧ tT K mg W0 tt σ2 H2 fun b H3 =>
        if b = true then tE K mg W0 te σ2 H3 fun y H4 => ∃ acc, H4 D = some (.lst acc) ∧ acc.length < sizeLine ∧ Nx (upd H4 D (.lst (acc ++ [y]))) else Nx H3) := by
  let Iv : Nat → Hp → Prop := fun i Hc => ∃ ρ' done rest acc, lcL vs g tt te (xs.drop i) ρ' = .ok rest ρF ∧ done ++ rest = done0 ++ tot ∧ LeO ρ' ρs ∧ FrD D ρs σs Hs Hc ∧ RE K mg FD ρ' σs Hc ∧ Hc D = some (.lst acc) ∧ RepVs K mg (NN FD ρ' σs) Hc done acc
  refine ⟨fun i m Hc => m = xs.length - i ∧ i ≤ xs.length ∧ Iv i Hc, ⟨xs.length, by simp, Nat.zero_le _, ρs, done0, tot, acc0, by simpa using run, rfl, LeO.refl _, FrD.refl _ _ _ _, re0, hD0, rd0⟩, ?_⟩
  rintro i m Hc ⟨rfl, hi, ρ', done, rest, acc, hr, hdr, le, fd, re, hDc, rd⟩
  have frc : FrF F ρ1 σ1 H1 Hc := ⟨fun a o h n q t => fd.keep a o (fr0.keep a o h n q t) n (fun z => (lw0 a z).elim q fun z => (by rw [h] at z; cases z)) (fun z => by subst z; exact hD1.elim t fun hD1 => by rw [hD1] at h; cases h), fun a o h => let ⟨o', h'⟩ := fr0.up a o h; fd.up a o' h'⟩
  have lwc : LeW ρ1 σ1 H1 ρ' σs := fun a q => lw0 a (q.mono le)
  obtain ⟨wk1, wk2⟩ := wk Hc ρ' σs FD frc lwc hFD re
  by_cases hlt : i < xs.length
  · obtain ⟨x, hx⟩ : ∃ x, xs[i]? = some x := ⟨xs[i], by simp [hlt]⟩
    have hdrop : xs.drop i = x :: xs.drop (i + 1) := by
      rw [List.drop_eq_getElem_cons hlt]
      have := List.getElem?_eq_getElem hlt
      rw [this] at hx; cases hx; rfl
    obtain ⟨hgo, hy⟩ := wk1 i x hx
    refine .inr ⟨hgo, fun H' => Iv (i + 1) H', fun H' q => ⟨xs.length - (i + 1), by omega, rfl, hlt, q⟩, fun v H' yl => ?_⟩
    obtain ⟨sm, rv⟩ := hy v H' yl
    rw [hdrop, lcL] at hr
    cases hb : bT g (.pv x) ρ' with
    | exc c fs ρa => rw [hb] at hr; cases hr
    | bad => rw [hb] at hr; cases hr
    | ok u ρa =>
    rw [hb] at hr
    simp only [Out.bd] at hr
    refine ⟨FD, ρ', x, rv, re.same sm, ρa, hb, fun σ2 rea os oe owI => ⟨?_, ?_⟩⟩
    · have := wipe_oth (σ := σs) (vs := vs) (σ2 := σ2) (u := tgS g) (by rw [hw]; exact os) hvs
      rw [this, hw]
    · have hwe : L2.wipe σ2 vs = σs := by
        have := wipe_oth (σ := σs) (vs := vs) (σ2 := σ2) (u := tgS g) (by rw [hw]; exact os) hvs
        rw [this, hw]
      have ow : ∀ z, Own ρa σ2 z → Own ρ' σs z := fun z ⟨j, q⟩ => ⟨j, owI j z q⟩
      have hDa : H' D = some (.lst acc) := sm _ _ hDc
      have fda : FrD D ρs σs Hs H' := fd.step (Fr.of_same (ρ := ρs) (σ := σs) sm) fun a q => .inl q
      have owa : ∀ a, Own ρa σ2 a → Own ρs σs a ∨ Hs a = none := fun a q => .inl ((ow a q).mono le)
      cases ht : tt ρa with
      | exc c fs ρb => rw [ht] at hr; cases hr
      | bad => rw [ht] at hr; cases hr
      | ok cc ρb =>
      rw [ht] at hr
      simp only [Out.bd] at hr
      refine ⟨FD, ρa, rea, ?_⟩
      rw [ht]
      intro H3 b f3 l3 ⟨e3, re3⟩
      subst e3
      have hD3 : H3 D = some (.lst acc) := f3.keep D _ hDa (by intro ps e; cases e) (rea.apart D hDF)
      have fd3 : FrD D ρs σs Hs H3 := fda.step f3 owa
      have ow3 : ∀ a, Own ρb σ2 a → Own ρs σs a ∨ Hs a = none := fun a q => owa a (q.mono l3)
      have rd3 : RepVs K mg (NN FD ρb σ2) H3 done acc := by
        refine ((rd.same sm).weak (N' := NN FD ρa σ2) fun z q => q.imp id (ow z)).fr f3 rea l3
      have leW : ∀ ρc, LeO ρc ρb → LeO (Pi.wipe vs ρc) ρs := fun ρc lc j o h => by
        obtain ⟨h1, h2⟩ := wipeE_some h
        obtain ⟨o1, h3⟩ := (lc.trans l3) j o h1
        rw [oe.2 j fun z => h2 (hvs j z)] at h3
        exact le j o1 h3
      cases b with
      | false =>
        rw [if_neg (by simp)] at hr ⊢
        have rw3 := re3.wipe vs
        rw [hwe] at rw3
        refine ⟨Pi.wipe vs ρb, done, rest, acc, hr, hdr, leW ρb (LeO.refl _), fd3, rw3, hD3, rd3.weak fun z q => q.imp id fun q => ?_⟩
        have : Own (Pi.wipe vs ρb) (L2.wipe σ2 vs) z := by rw [hwe]; exact q
        exact own_wipe this
      | true =>
        rw [if_pos rfl] at hr ⊢
        cases he : te ρb with
        | exc c fs ρc => rw [he] at hr; cases hr
        | bad => rw [he] at hr; cases hr
        | ok y ρc =>
        rw [he] at hr
        simp only [Out.bd] at hr
        cases hq : lcL vs g tt te (xs.drop (i + 1)) (Pi.wipe vs ρc) with
        | exc c fs ρd => rw [hq] at hr; cases hr
        | bad => rw [hq] at hr; cases hr
        | ok ys ρd =>
        rw [hq] at hr
        simp only [Out.bd, Out.ok.injEq] at hr
        obtain ⟨hr1, hr2⟩ := hr
        subst hr1 hr2
        refine ⟨FD, ρb, re3, ?_⟩
        rw [he]
        intro H4 v4 f4 l4 rx
        have hD4 : H4 D = some (.lst acc) := f4.keep D _ hD3 (by intro ps e; cases e) (re3.apart D hDF)
        have fd4 : FrD D ρs σs Hs H4 := fd3.step f4 ow3
        have rd4 : RepVs K mg (NN FD ρc σ2) H4 done acc := rd3.fr f4 re3 l4
        have re4 : RE K mg FD ρc σ2 H4 := rx.re
        refine ⟨acc, hD4, ?_, ?_⟩
        · have h1 := rd.length
          have h2 := congrArg List.length hdr
          simp only [List.length_append, List.length_cons] at h2 hlen
          have e : sizeLine = 16777216 := sizeLine_eq
          have e2 : szL = 16777216 := rfl
          omega
        · have rw4 := re4.wipe vs
          rw [hwe] at rw4
          have nw : ∀ z, NN FD (Pi.wipe vs ρc) σs z → NN FD ρc σ2 z := fun z q => q.imp id fun q => by
            have : Own (Pi.wipe vs ρc) (L2.wipe σ2 vs) z := by rw [hwe]; exact q
            exact own_wipe this
          refine ⟨Pi.wipe vs ρc, done ++ [y.val], ys, acc ++ [v4], hq, by rw [← hdr]; simp, leW ρc l4, fd4.upd, rw4.updD hD4 Mut.lst Mut.lst hDF, upd_same, ?_⟩
          exact ((rd4.weak nw).snoc ((rx.kept (D := D)).weak nw)).updD hD4 Mut.lst (.inl hDF)
  · have e : i = xs.length := by omega
    subst e
    rw [List.drop_length, lcL] at hr
    cases hr
    rw [List.append_nil] at hdr
    subst hdr
    exact .inl ⟨wk2, hEnd Hc acc fd le re hDc rd⟩
theorem wipe_wipe (σ : St) (vs : List Nat) : L2.wipe (L2.wipe σ vs) vs = L2.wipe σ vs := wipe_oth (u := []) ⟨rfl, fun _ _ => rfl⟩ (by simp)
/-- the env behind a comprehension -/
theorem back_RE {FD : NA} {ρF : Env} {Hc : Hp} (hn : noOwn vs ρ1 = true) (re1 : RE K mg G ρ1 σ H1) (f : Fr (Pi.wipe vs ρ1) (L2.wipe σ vs) H1 Hc) (le : LeO ρF (Pi.wipe vs ρ1)) (hFD : ∀ a, FD a → G a ∨ H1 a = none) (r : RE K mg FD ρF (L2.wipe σ vs) Hc) :
    RE K mg FD (back vs ρ1 ρF) σ Hc ∧ LeO (back vs ρ1 ρF) ρ1 ∧ (∀ z, Own (back vs ρ1 ρF) σ z → Own ρF (L2.wipe σ vs) z) := by
  have lo : LeO (back vs ρ1 ρF) ρ1 := fun j o h => by
    by_cases hj : j ∈ vs
    · exact absurd (back_in hj h) (noOwn_at hn hj)
    · rw [back_out hj] at h
      obtain ⟨o', h1⟩ := le j o h
      exact ⟨o', (wipeE_some h1).1⟩
  have ow : ∀ z, Own (back vs ρ1 ρF) σ z → Own ρF (L2.wipe σ vs) z := fun z ⟨j, o, h1, h2⟩ => by
    by_cases hj : j ∈ vs
    · exact absurd (back_in hj h1) (noOwn_at hn hj)
    · rw [back_out hj] at h1
      exact ⟨j, o, h1, by rw [L2.wipe_out hj]; exact h2⟩
  have w : ∀ z, NN FD (back vs ρ1 ρF) σ z → NN FD ρF (L2.wipe σ vs) z := fun z q => q.imp id (ow z)
  refine ⟨⟨by rw [back_len, r.len, L2.wipe_length], fun j v h => ?_, fun j o h => ?_, fun i j z h1 h2 => ?_, fun z q t => r.apart z q (ow z t), r.there⟩, lo, ow⟩
  · by_cases hj : j ∈ vs
    · obtain ⟨x, e1, e2⟩ := re1.pv j v (back_in hj h)
      refine ⟨x, e1, e2.go f (re1.wipe vs) (fun z q => ?_) fun z q => .inr (own_wipe q)⟩
      rcases q with q | q
      · exact (hFD z q).imp .inl id
      · exact .inl (.inr (q.mono lo))
    · rw [back_out hj] at h
      obtain ⟨x, e1, e2⟩ := r.pv j v h
      exact ⟨x, by rw [L2.wipe_out hj] at e1; exact e1, e2.weak w⟩
  · by_cases hj : j ∈ vs
    · exact absurd (back_in hj h) (noOwn_at hn hj)
    · rw [back_out hj] at h
      obtain ⟨x, e1, e2⟩ := r.own j o h
      exact ⟨x, by rw [L2.wipe_out hj] at e1; exact e1, e2.weak w⟩
  · obtain ⟨o1, e1, e2⟩ := h1
    obtain ⟨o2, e3, e4⟩ := h2
    obtain ⟨p1, q1⟩ := lo i o1 e1
    obtain ⟨p2, q2⟩ := lo j o2 e3
    exact re1.dist i j z ⟨p1, q1, e2⟩ ⟨p2, q2, e4⟩
theorem lc_reads {s : Src} {g : Pi.TG} {tt : T} {te : E} {Q : VK} (hvs : ∀ i ∈ tgS g, i ∈ vs) (h : tE K mg W (eLc vs s g tt te) σ H Q) : tLc (tI K mg W s) (tGp K mg g) (tT K mg W0 tt) (tE K mg W0 te) vs σ H Q := by
  obtain ⟨F, ρ, re, g0⟩ := h
  refine ⟨F, ρ, re, Go.bd g0 fun xs ρ1 H1 J f1 l1 ri g1 => ?_⟩
  obtain ⟨G, hF, hG, reG, wk⟩ := ri
  split at g1
  · rename_i hn
    cases hL : lcL vs g tt te xs (Pi.wipe vs ρ1) with
    | exc c fs ρF => rw [hL] at g1; exact g1.elim
    | bad => rw [hL] at g1; exact g1.elim
    | ok tot ρF =>
    rw [hL] at g1
    simp only [nox, Out.bd] at g1
    split at g1
    · rename_i hl
      intro D hD
      have n0 := newL (K := K) (mg := mg) (N := NN G ρ1 σ) hD (xs := []) (vs := []) .nil
      have sm : Same H1 (upd H1 D (.lst [])) := same_upd hD
      have re0 : RE K mg (FF G D) (Pi.wipe vs ρ1) (L2.wipe σ vs) (upd H1 D (.lst [])) := (RE.beside sm reG hD upd_same Mut.lst).wipe vs
      have fr0 : Fr ρ1 σ H1 (upd H1 D (.lst [])) := Fr.of_same sm
      refine lc_loop (End := fun Hc => Q (.ref D) Hc) (done0 := []) hvs wk (wipe_wipe σ vs) fr0.f (fun a q => .inl (own_wipe q)) (FD := FF G D) (fun a q => q.imp id fun q => (by rw [q]; exact hD)) (fun a q => .inl q) (.inr hD) (.inr rfl) re0 upd_same .nil hL (by simpa using hl) ?_
      intro Hc acc fd le re2 hDc rd
      have frw : Fr (Pi.wipe vs ρ1) (L2.wipe σ vs) H1 Hc := ⟨fun a o h n q => fd.keep a o (sm _ _ h) n q fun z => (by subst z; rw [hD] at h; cases h), fun a o h => fd.up a o (sm _ _ h)⟩
      obtain ⟨rb, lo, ow⟩ := back_RE hn reG frw le (fun a q => q.imp id fun q => (by rw [q]; exact hD)) re2
      have fr1 : Fr ρ1 σ H1 Hc := ⟨fun a o h n q => frw.keep a o h n fun z => q (own_wipe z), frw.up⟩
      have fall : Fr ρ σ H Hc := f1.trans l1 fr1
      refine g1 Hc (.ref D) fall (lo.trans l1) ⟨D, rfl, f1.none hD, fun q => ?_, fun q => rb.apart D (.inr rfl) q, .mk hDc .lst ?_, rb.less fun a q => q.imp (hF a) id⟩
      · obtain ⟨o, e, _⟩ := reG.there D (hF D q)
        rw [hD] at e; cases e
      · have : RepVs K mg (NN (FF G D) ρF (L2.wipe σ vs)) Hc tot acc := by simpa using rd
        exact this.weak fun z q => q.elim (fun q => .inl (q.imp (hF z) id)) fun q => .inr (ow z q)
    · exact g1.elim
  · exact g1.elim
end
end Pi

/-! Pi, part 12: statements. -/
namespace Pi
open PySem PySem.Spec L2
/-- who owns what later on, slot by slot -/
def LeI (ρ : Env) (σ : St) (H : Hp) (ρ' : Env) (σ' : St) : Prop := ∀ i a, OwnAt ρ' σ' i a → OwnAt ρ σ i a ∨ H a = none
/-- the slots M are not stored -/
def Kp (M : List Nat) (ρ : Env) (σ : St) (ρ' : Env) (σ' : St) : Prop := ∀ i ∈ M, σ'[i]? = σ[i]? ∧ ∀ o, ρ'[i]? = some (some (.own o)) → ∃ o', ρ[i]? = some (some (.own o'))
structure Stp (M : List Nat) (ρ : Env) (σ : St) (H : Hp) (ρ' : Env) (σ' : St) (H' : Hp) : Prop where
  fr : Fr ρ σ H H'
  lw : LeI ρ σ H ρ' σ'
  kp : Kp M ρ σ ρ' σ'
section
variable (K : PySem.W.Frag) (mg : MG)
def RRet (M : List Nat) (F : NA) (ρ : Env) (σ : St) (H : Hp) (ρ' : Env) (σ' : St) (H' : Hp) : XV → V → Prop
  | .pv p, v => RepV K mg (NN F ρ' σ') H' p v ∧ RE K mg F ρ' σ' H'
  | .own o, v => ∃ a, v = .ref a ∧ ((∃ i, i ∉ M ∧ OwnAt ρ σ i a) ∨ H a = none) ∧ ¬ F a ∧ ¬ Own ρ' σ' a ∧ RepO K mg (NN (FF F a) ρ' σ') H' o a ∧ RE K mg (FF F a) ρ' σ' H'
def GoS (W : WX) (M : List Nat) (F : NA) (ρ : Env) (σ : St) (H : Hp) (D : Ends) : Out Flow → Prop
  | .ok .nx ρ' => ∀ σ' H', Stp M ρ σ H ρ' σ' H' → RE K mg F ρ' σ' H' → D.nx σ' H'
  | .ok .brk ρ' => ∀ σ' H', Stp M ρ σ H ρ' σ' H' → RE K mg F ρ' σ' H' → D.bk σ' H'
  | .ok .cnt ρ' => ∀ σ' H', Stp M ρ σ H ρ' σ' H' → RE K mg F ρ' σ' H' → D.ct σ' H'
  | .ok (.ret x) ρ' => ∀ σ' H' v, Stp M ρ σ H ρ' σ' H' → RRet K mg M F ρ σ H ρ' σ' H' x v → D.rt v H'
  | .exc c fs ρ' => ∀ σ' H' cls d, Stp M ρ σ H ρ' σ' H' → RE K mg F ρ' σ' H' → RExc K mg c fs cls d H' → W cls d σ' H'
  | .bad => False
def tS (W : WX) (M : List Nat) (s : S) : TS := fun D σ H => ∃ F ρ, RE K mg F ρ σ H ∧ GoS K mg W M F ρ σ H D (s ρ)
end
section
variable {X : Cx} {K : PySem.W.Frag} {mg : MG} {N N' F F' F1 G : NA} {H H' H0 H1 H2 : Hp} {ρ ρ' ρ1 ρ2 : Env} {σ σ' σ1 σ2 : St} {W : WX} {M : List Nat} {D : Ends}
variable {a b c e : Expr} {es : List Expr} {pos p : Pos} {vs : List Nat}
theorem LeI.w (h : LeI ρ σ H ρ' σ') : LeW ρ σ H ρ' σ' := fun a ⟨i, q⟩ => (h i a q).imp (fun q => ⟨i, q⟩) id
theorem LeO.i (l : LeO ρ' ρ) : LeI ρ σ H ρ' σ := fun i a ⟨o, h1, h2⟩ => let ⟨o', h3⟩ := l i o h1; .inl ⟨o', h3, h2⟩
theorem Stp.refl : Stp M ρ σ H ρ σ H := ⟨Fr.refl _ _ _, fun _ _ q => .inl q, fun _ _ => ⟨rfl, fun o h => ⟨o, h⟩⟩⟩
theorem Stp.x (f : Fr ρ σ H H1) (l : LeO ρ1 ρ) : Stp M ρ σ H ρ1 σ H1 := ⟨f, l.i, fun i _ => ⟨rfl, fun o h => l i o h⟩⟩
theorem Stp.trans (a : Stp M ρ σ H ρ1 σ1 H1) (b : Stp M ρ1 σ1 H1 ρ2 σ2 H2) : Stp M ρ σ H ρ2 σ2 H2 :=
  ⟨a.fr.transW a.lw.w b.fr, fun i z q => (b.lw i z q).elim (a.lw i z) fun q => .inr (a.fr.none q), fun i hi => ⟨(b.kp i hi).1.trans (a.kp i hi).1, fun o h => let ⟨o1, h1⟩ := (b.kp i hi).2 o h; (a.kp i hi).2 o1 h1⟩⟩
theorem RRet.of {x : XV} {v : V} (h : RX K mg F ρ' σ' H H' x v) : RRet K mg M F ρ σ H ρ' σ' H' x v := by
  cases x with
  | pv q => exact h
  | own o =>
    obtain ⟨a, e, h0, r⟩ := h
    exact ⟨a, e, .inr h0, r⟩
theorem RRet.back {x : XV} {v : V} (s : Stp M ρ σ H ρ1 σ1 H1) (hF : ∀ a, F a → F1 a) (h : RRet K mg M F1 ρ1 σ1 H1 ρ' σ' H' x v) : RRet K mg M F ρ σ H ρ' σ' H' x v := by
  cases x with
  | pv q => exact ⟨h.1.weak fun a z => z.imp (hF a) id, h.2.less hF⟩
  | own o =>
    obtain ⟨a, e, h0, h1, h2, h3, h4⟩ := h
    refine ⟨a, e, ?_, fun q => h1 (hF a q), h2, h3.weak fun b z => z.imp (fun q => q.imp (hF b) id) id, h4.less fun b q => q.imp (hF b) id⟩
    rcases h0 with ⟨i, n, q⟩ | q
    · exact (s.lw i a q).imp (fun q => ⟨i, n, q⟩) id
    · exact .inr (s.fr.none q)
theorem GoS.shift {o : Out Flow} (s : Stp M ρ σ H ρ1 σ1 H1) (hF : ∀ a, F a → F1 a) (h : GoS K mg W M F ρ σ H D o) : GoS K mg W M F1 ρ1 σ1 H1 D o := by
  cases o with
  | bad => exact h
  | exc c fs ρ' => exact fun σ' H' cls d t r x => h σ' H' cls d (s.trans t) (r.less hF) x
  | ok f ρ' =>
    cases f with
    | nx => exact fun σ' H' t r => h σ' H' (s.trans t) (r.less hF)
    | brk => exact fun σ' H' t r => h σ' H' (s.trans t) (r.less hF)
    | cnt => exact fun σ' H' t r => h σ' H' (s.trans t) (r.less hF)
    | ret x => exact fun σ' H' v t r => h σ' H' v (s.trans t) (r.back s hF)
/-- an expression of a statement -/
theorem GoS.bdE {α β : Type} {R : α → Env → Hp → β → Prop} {o : Out α} {f : α → Env → Out Flow} {Q : β → Hp → Prop} (h : GoS K mg W M F ρ σ H D (o.bd f))
    (k : ∀ x ρ1 H1 v, Fr ρ σ H H1 → LeO ρ1 ρ → R x ρ1 H1 v → GoS K mg W M F ρ σ H D (f x ρ1) → Q v H1) : Go K mg W F ρ σ H R o Q := by
  cases o with
  | ok x ρ1 => exact fun H1 v f1 l1 r1 => k x ρ1 H1 v f1 l1 r1 h
  | exc c fs ρ1 => exact fun H' cls d f l r x => h σ H' cls d (Stp.x f l) r x
  | bad => exact h
theorem GoS.bdE2 {α β : Type} {R : α → Env → Hp → β → Prop} {o : Out α} {f : α → Env → Out Flow} {Q : β → Hp → Prop} (h : GoS K mg W M F ρ σ H D (o.bd f)) (f1 : Fr ρ σ H H1) (l1 : LeO ρ1 ρ) (hF : ∀ a, F a → F1 a)
    (k : ∀ x ρ2 H2 v, Fr ρ1 σ H1 H2 → LeO ρ2 ρ1 → R x ρ2 H2 v → GoS K mg W M F ρ σ H D (f x ρ2) → Q v H2) : Go K mg W F1 ρ1 σ H1 R o Q := by
  cases o with
  | ok x ρ2 => exact fun H2 v f2 l2 r2 => k x ρ2 H2 v f2 l2 r2 h
  | exc c fs ρ2 => exact fun H' cls d f2 l2 r2 x => h σ H' cls d (Stp.x (f1.trans l1 f2) (l2.trans l1)) (r2.less hF) x
  | bad => exact h
theorem gos_res {α : Type} {o : Option α} {f : α → Env → Out Flow} (h : GoS K mg W M F ρ σ H D ((res o ρ1).bd f)) : ∃ x, o = some x ∧ GoS K mg W M F ρ σ H D (f x ρ1) := by
  cases o with
  | none => exact h.elim
  | some x => exact ⟨x, rfl, h⟩

/-! ### rows of statements -/
theorem ps_badA {st : Stmt} : PS X st (tS X.K X.mm W M sBad) := ⟨fun _ _ _ _ _ _ h => by obtain ⟨_, _, _, z⟩ := h; exact z.elim⟩
theorem pss_nilA : PSs X [] (tS X.K X.mm W M sNx) := PSs.imp pss_nil fun D σ H h => by
  obtain ⟨F, ρ, re, g⟩ := h
  exact g σ H Stp.refl re
theorem pss_consA {st : Stmt} {rest : List Stmt} {s t : S} (h1 : PS X st (tS X.K X.mm W M s)) (h2 : PSs X rest (tS X.K X.mm W M t)) : PSs X (st :: rest) (tS X.K X.mm W M (sSeq s t)) := by
  refine PSs.imp (pss_cons h1 h2) fun D σ H h => ?_
  obtain ⟨F, ρ, re, g⟩ := h
  refine ⟨F, ρ, re, ?_⟩
  simp only [sSeq] at g
  cases q : s ρ with
  | bad => rw [q] at g; exact g
  | exc c fs ρ1 => rw [q] at g; exact g
  | ok f ρ1 =>
    rw [q] at g
    cases f with
    | nx => exact fun σ1 H1 st re1 => ⟨F, ρ1, re1, GoS.shift st (fun _ z => z) g⟩
    | brk => exact g
    | cnt => exact g
    | ret x => exact g

/-! ### stores -/
theorem bT_ne {c : Str} {fs : List (Str × PV)} : (∀ {g : Pi.TG} {x : XV} {ρ ρ' : Env}, bT g x ρ ≠ .exc c fs ρ') ∧ ∀ {gs : List Pi.TG} {xs : List PV} {ρ ρ' : Env}, bTs gs xs ρ ≠ .exc c fs ρ' := by
  have A : ∀ n, (∀ g : Pi.TG, sizeOf g ≤ n → ∀ x (ρ ρ' : Env), bT g x ρ ≠ .exc c fs ρ') ∧ ∀ gs : List Pi.TG, sizeOf gs ≤ n → ∀ xs (ρ ρ' : Env), bTs gs xs ρ ≠ .exc c fs ρ' := by
    intro n
    induction n with
    | zero =>
      refine ⟨fun g hg => ?_, fun gs hg => ?_⟩
      · cases g <;> simp at hg
      · cases gs <;> simp at hg
    | succ n ih =>
      refine ⟨fun g hg x ρ ρ' h => ?_, fun gs hg xs ρ ρ' h => ?_⟩
      · cases g with
        | nm i => rw [bT] at h; cases h
        | tp ts =>
          rw [bT] at h
          split at h
          · exact ih.2 ts (by simp at hg; omega) _ _ _ h
          · cases h
      · cases gs with
        | nil => cases xs <;> (rw [bTs] at h <;> first | cases h | simp)
        | cons t ts =>
          cases xs with
          | nil => rw [bTs] at h <;> first | cases h | simp
          | cons x xs =>
            rw [bTs] at h
            have h1 : sizeOf t ≤ n := by simp at hg; omega
            have h2 : sizeOf ts ≤ n := by simp at hg; omega
            cases q : bT t (.pv x) ρ with
            | ok u ρ1 => rw [q] at h; exact ih.2 ts h2 _ _ _ h
            | exc c' fs' ρ1 =>
              rw [q] at h
              simp only [Out.bd, Out.exc.injEq] at h
              obtain ⟨rfl, rfl, rfl⟩ := h
              exact ih.1 t h1 _ _ _ q
            | bad => rw [q] at h; cases h
  exact ⟨fun {g x ρ ρ'} => (A _).1 g (Nat.le_refl _) x ρ ρ', fun {gs xs ρ ρ'} => (A _).2 gs (Nat.le_refl _) xs ρ ρ'⟩
theorem asg_reads {g : Pi.TG} {d : E} (hM : ∀ i ∈ M, i ∉ tgS g) (h : tS K mg W M (sAsg g d) D σ H) : tAsg (tE K mg W d) (tGx K mg g) D σ H := by
  obtain ⟨F, ρ, re, g0⟩ := h
  refine ⟨F, ρ, re, GoS.bdE g0 fun x ρ1 H1 v f1 l1 r1 g1 => ?_⟩
  cases q : bT g x ρ1 with
  | bad => rw [q] at g1; exact g1.elim
  | exc c fs ρ2 => exact absurd q bT_ne.1
  | ok u ρ2 =>
    rw [q] at g1
    refine ⟨F, ρ1, x, H, r1, ρ2, q, fun σ' re' os oe ow => g1 σ' H1 ⟨f1, fun i z w => (ow i z w).elim (l1.i (H := H) i z) .inr, fun i hi => ⟨os.2 i (hM i hi), fun o ho => ?_⟩⟩ re'⟩
    rw [oe.2 i (hM i hi)] at ho
    exact l1 i o ho
theorem tO.mono {k : OP} {Q Q' : VK} (h : tO K mg W k σ H Q) (i : ∀ v H', Q v H' → Q' v H') : tO K mg W k σ H Q' := by
  obtain ⟨F, ρ, re, g⟩ := h
  refine ⟨F, ρ, re, ?_⟩
  cases q : k ρ with
  | bad => rw [q] at g; exact g
  | exc c fs ρ1 => rw [q] at g; exact g
  | ok r ρ1 => rw [q] at g; exact fun H' v f l rr => i v H' (g H' v f l rr)
/-- the object of a slot's own has new items -/
theorem RE.updOwnG {i : Nat} {o o' : PV} {l : Addr} {ob' : HO} {xs : List PV} {ws : List V} (r : RE K mg F ρ σ H) (hi : ρ[i]? = some (some (.own o))) (ha : σ[i]? = some (some (.ref l))) (sh' : Shp mg l o' ob' xs ws) (hs : RepVs K mg (NN F ρ σ) H xs ws) :
    RE K mg F (ρ.set i (some (.own o'))) σ (upd H l ob') ∧ Fr ρ σ H (upd H l ob') ∧ LeO (ρ.set i (some (.own o'))) ρ := by
  have hl : i < ρ.length := (List.getElem?_eq_some_iff.mp hi).1
  obtain ⟨us, hD, mD⟩ := r.isMut ⟨i, o, hi, ha⟩
  have lo : LeO (ρ.set i (some (.own o'))) ρ := fun j q h => by
    by_cases e : i = j
    · subst e; exact ⟨o, hi⟩
    · rw [List.getElem?_set_ne e] at h; exact ⟨q, h⟩
  have hi' : (ρ.set i (some (.own o')))[i]? = some (some (.own o')) := List.getElem?_set_self hl
  have w : ∀ z, NN F (ρ.set i (some (.own o'))) σ z → NN F ρ σ z := fun z q => q.imp id fun q => q.mono lo
  have nD : NN F (ρ.set i (some (.own o'))) σ l := .inr ⟨i, _, hi', ha⟩
  have fr : Fr ρ σ H (upd H l ob') := ⟨fun z o' h n q => by
    have : z ≠ l := fun e => q (e ▸ ⟨i, o, hi, ha⟩)
    rw [upd_ne this]; exact h, fun z o' h => by
    by_cases e : z = l
    · subst e; exact ⟨_, upd_same⟩
    · rw [upd_ne e]; exact ⟨o', h⟩⟩
  refine ⟨⟨by rw [List.length_set]; exact r.len, fun j v h => ?_, fun j o' h => ?_, fun j k z h1 h2 => ?_, fun z q t => r.apart z q (t.mono lo), fun z q => ?_⟩, fr, lo⟩
  · by_cases e : i = j
    · subst e; rw [hi'] at h; cases h
    · rw [List.getElem?_set_ne e] at h
      obtain ⟨x, h1, h2⟩ := r.pv j v h
      exact ⟨x, h1, (h2.weak w).updD hD mD nD⟩
  · by_cases e : i = j
    · subst e
      rw [hi'] at h; cases h
      exact ⟨l, ha, .mk upd_same sh' ((hs.weak w).updD hD mD nD)⟩
    · rw [List.getElem?_set_ne e] at h
      obtain ⟨x, h1, h2⟩ := r.own j o' h
      have ne : x ≠ l := fun z => e (r.dist i j l ⟨o, hi, ha⟩ ⟨o', h, by rw [h1, z]⟩)
      refine ⟨x, h1, ?_⟩
      cases h2 with
      | mk hx sh hs2 => exact .mk (by rw [upd_ne ne]; exact hx) sh ((hs2.weak w).updD hD mD nD)
  · obtain ⟨o1, e1, e2⟩ := h1
    obtain ⟨o2, e3, e4⟩ := h2
    obtain ⟨p1, q1⟩ := lo j o1 e1
    obtain ⟨p2, q2⟩ := lo k o2 e3
    exact r.dist j k z ⟨p1, q1, e2⟩ ⟨p2, q2, e4⟩
  · have ne : z ≠ l := fun e => r.apart z q (e ▸ ⟨i, o, hi, ha⟩)
    rw [upd_ne ne]
    exact r.there z q
theorem RE.updOwn {i : Nat} {o : PV} {l : Addr} {xs : List PV} {ws : List V} (r : RE K mg F ρ σ H) (hi : ρ[i]? = some (some (.own o))) (ha : σ[i]? = some (some (.ref l))) (hs : RepVs K mg (NN F ρ σ) H xs ws) :
    RE K mg F (ρ.set i (some (.own (.lst xs)))) σ (upd H l (.lst ws)) ∧ Fr ρ σ H (upd H l (.lst ws)) ∧ LeO (ρ.set i (some (.own (.lst xs)))) ρ := r.updOwnG hi ha .lst hs
/-! ### append -/
theorem own_name {i : Nat} {o : List PV} (re : RE K mg F ρ σ H) (h : ρ[i]? = some (some (.own (.lst o)))) : ∃ l vs, σ[i]? = some (some (.ref l)) ∧ H l = some (.lst vs) := by
  obtain ⟨l, h1, h2⟩ := re.own i _ h
  cases h2 with
  | mk h3 sh _ => cases sh with
    | lst => exact ⟨l, _, h1, h3⟩
theorem app_reads {i : Nat} {d : E} (h : tS K mg W M (sApp i d) D σ H) : tDrop (tBM K "list" rAppend (tVar i) (tOs K mg W [oE d])) D σ H := by
  obtain ⟨F, ρ, re, g0⟩ := h
  simp only [sApp] at g0
  split at g0
  · rename_i ys hi
    obtain ⟨l, us, h1, h2⟩ := own_name re hi
    refine ⟨.ref l, h1, .inl ⟨rfl, us, SqL.of h2⟩, F, ρ, re, ?_⟩
    have e0 : ops [oE d] ρ = (d ρ).bd fun x ρ1 => .ok [RV.v x] ρ1 := by
      simp only [ops, oE]
      cases d ρ <;> rfl
    rw [e0]
    cases q : d ρ with
    | bad => rw [q] at g0; exact g0.elim
    | exc c fs ρ1 => rw [q] at g0; exact fun H' cls d f l r x => g0 σ H' cls d (Stp.x f l) r x
    | ok x ρ1 =>
    rw [q] at g0
    simp only [Out.bd] at g0
    intro H1 ws f1 l1 r1
    obtain ⟨G, hF, hG, re1, rv⟩ := r1
    match ws, rv.lens with
    | [w], _ =>
    split at g0
    · rename_i xs hx
      split at g0
      · rename_i hl
        obtain ⟨l', e1, e2⟩ := re1.own i _ hx
        rw [h1] at e1; cases e1
        cases e2 with
        | mk e2 sh hs =>
          cases sh with
          | lst =>
          have rx : RepV K mg (NN F ρ1 σ) H1 x.val w := by
            have := RVl.vals (xs := [x]) re1 hF rv
            cases this with
            | cons r _ => exact r
          have hz := hs.length
          obtain ⟨q1, q2, q3⟩ := (re1.less hF).updOwn hx h1 ((hs.weak fun z q => q.imp (hF z) id).snoc rx)
          refine ⟨l, _, w, rfl, rfl, e2, by rw [← hz]; exact hl, g0 σ _ (Stp.x (f1.trans l1 q2) (q3.trans l1)) q1⟩
      · exact g0.elim
    · exact g0.elim
    | [], h => simp at h
    | _ :: _ :: _, h => simp at h
  · exact g0.elim

/-! ### a row of targets beside a row of values -/
/-- a state of the row's stores: what is still to be stored, and what is wanted behind it -/
def LS (K : PySem.W.Frag) (mg : MG) (W : WX) (M : List Nat) (F : NA) (ρ0 : Env) (σ0 : St) (H0 : Hp) (D : Ends) (ls : List LT) (xs : List XV) (ρ : Env) (σ : St) (H : Hp) (vs : List V) : Prop :=
  ∃ G : NA, Stp M ρ0 σ0 H0 ρ σ H ∧ (∀ z, F z → G z) ∧ (∀ z, G z → F z ∨ H0 z = none) ∧ RE K mg G ρ σ H ∧ RVl K mg G F ρ σ H (xs.map RV.v) vs ∧ GoS K mg W M F ρ0 σ0 H0 D ((asgL ls xs ρ).bd fun _ ρ2 => .ok .nx ρ2)
theorem LS.nil {ρ0 : Env} {σ0 : St} {H0 : Hp} {xs : List XV} {ws : List V} (h : LS K mg W M F ρ0 σ0 H0 D [] xs ρ σ H ws) : ws = [] ∧ D.nx σ H := by
  obtain ⟨G, st, hF, hG, re, rv, g⟩ := h
  cases xs with
  | cons x xs => exact g.elim
  | nil =>
    refine ⟨?_, g σ H st (re.less hF)⟩
    have := rv.lens
    cases ws with
    | nil => rfl
    | cons w ws => simp at this
theorem LS.len {ρ0 : Env} {σ0 : St} {H0 : Hp} {ls : List LT} {l : LT} {xs : List XV} {ws : List V} (h : LS K mg W M F ρ0 σ0 H0 D (l :: ls) xs ρ σ H ws) : ∃ x xs' w ws', xs = x :: xs' ∧ ws = w :: ws' := by
  obtain ⟨G, st, hF, hG, re, rv, g⟩ := h
  cases xs with
  | nil => cases l <;> exact g.elim
  | cons x xs =>
    have := rv.lens
    cases ws with
    | nil => simp at this
    | cons w ws => exact ⟨x, xs, w, ws, rfl, rfl⟩
theorem RVl.frV (f : Fr ρ σ H H1) (re : RE K mg G ρ σ H) (l : LeO ρ1 ρ) : ∀ {xs : List XV} {ws : List V}, RVl K mg G F ρ σ H (xs.map RV.v) ws → RVl K mg G F ρ1 σ H1 (xs.map RV.v) ws
  | [], [], _ => trivial
  | .pv q :: xs, _ :: ws, h => ⟨h.1.fr f re l, RVl.frV f re l h.2⟩
  | .own q :: xs, _ :: ws, ⟨⟨y, e1, g, n, r, dd⟩, h⟩ => ⟨⟨y, e1, g, n, r.fr f re l (re.apart y g), dd⟩, RVl.frV f re l h⟩
theorem RVl.move {G' : NA} (w : ∀ z, NN G' ρ' σ' z → NN G ρ σ z) : ∀ {xs : List XV} {ws : List V}, RVl K mg G F ρ σ H (xs.map RV.v) ws → (∀ (j : Nat) o y, xs[j]? = some (.own o) → ws[j]? = some (.ref y) → G y → G' y) → RVl K mg G' F ρ' σ' H (xs.map RV.v) ws
  | [], [], _, _ => trivial
  | .pv q :: xs, _ :: ws, h, d => ⟨h.1.weak w, RVl.move w h.2 fun j o y e1 e2 => d (j + 1) o y (by simpa using e1) (by simpa using e2)⟩
  | .own q :: xs, _ :: ws, ⟨⟨y, e1, g, n, r, dd⟩, h⟩, d => ⟨⟨y, e1, d 0 q y rfl (by rw [e1]; rfl) g, n, r.weak w, dd⟩, RVl.move w h fun j o y e1 e2 => d (j + 1) o y (by simpa using e1) (by simpa using e2)⟩
theorem RVl.updV {l : Addr} {ob ob' : HO} (hD : H l = some ob) (mD : Mut ob) (nD : Own ρ σ l) (re : RE K mg G ρ σ H) : ∀ {xs : List XV} {ws : List V}, RVl K mg G F ρ σ H (xs.map RV.v) ws → RVl K mg G F ρ σ (upd H l ob') (xs.map RV.v) ws
  | [], [], _ => trivial
  | .pv q :: xs, _ :: ws, h => ⟨h.1.updD hD mD (.inr nD), RVl.updV hD mD nD re h.2⟩
  | .own q :: xs, _ :: ws, ⟨⟨y, e1, g, n, r, dd⟩, h⟩ => by
    refine ⟨⟨y, e1, g, n, ?_, dd⟩, RVl.updV hD mD nD re h⟩
    have ne : y ≠ l := fun z => re.apart y g (z ▸ nD)
    cases r with
    | mk hx sh hs => exact .mk (by rw [upd_ne ne]; exact hx) sh (hs.updD hD mD (.inr nD))
theorem RVl.headV (re : RE K mg G ρ σ H) (hF : ∀ z, F z → G z) {x : XV} {xs : List XV} {w : V} {ws : List V} (h : RVl K mg G F ρ σ H ((x :: xs).map RV.v) (w :: ws)) :
    ∃ G' : NA, (∀ z, F z → G' z) ∧ (∀ z, G' z → G z) ∧ (∀ H0', (∀ z, G z → F z ∨ H0' z = none) → RX K mg G' ρ σ H0' H x w) ∧ (∀ (j : Nat) o y, xs[j]? = some (.own o) → ws[j]? = some (.ref y) → G y → G' y) ∧ (∀ o z, x = .own o → w = .ref z → G z ∧ ¬ F z) := by
  cases x with
  | pv q => exact ⟨G, hF, fun _ z => z, fun _ _ => ⟨h.1, re⟩, fun _ _ _ _ _ z => z, fun _ _ e => by cases e⟩
  | own q =>
    obtain ⟨⟨y, rfl, g, n, r, dd⟩, h⟩ := h
    have s : ∀ z, FF (fun z => G z ∧ z ≠ y) y z → G z := fun z t => t.elim (fun t => t.1) fun t => t ▸ g
    refine ⟨fun z => G z ∧ z ≠ y, fun z t => ⟨hF z t, fun e => n (e ▸ t)⟩, fun z t => t.1, fun H0' h0 => ⟨y, rfl, (h0 y g).resolve_left n, fun t => t.2 rfl, re.apart y g, r.weak fun z t => t.imp (s z) id, re.less s⟩, fun j o z e1 e2 gz => ⟨gz, fun e => ?_⟩, fun o z _ e => by cases e; exact ⟨g, n⟩⟩
    subst e
    exact dd j o (by simpa using e1) e2
theorem LS.nm {ρ0 : Env} {σ0 : St} {H0 : Hp} {i : Nat} {ls : List LT} {x : XV} {xs : List XV} {w : V} {ws : List V} (hM : i ∉ M) (h : LS K mg W M F ρ0 σ0 H0 D (.nm i :: ls) (x :: xs) ρ σ H (w :: ws)) : LS K mg W M F ρ0 σ0 H0 D ls xs (ρ.set i (some x)) (σ.set i (some w)) H ws := by
  obtain ⟨G, st, hF, hG, re, rv, g⟩ := h
  obtain ⟨G', k1, k2, k3, k4, k5⟩ := RVl.headV re hF rv
  have rx := k3 H0 hG
  refine ⟨G', ⟨st.fr, fun j z q => ?_, fun j hj => ?_⟩, k1, fun z q => hG z (k2 z q), RE.put rx, RVl.move (fun z q => ?_) (RVl.tl rv) k4, g⟩
  · rcases own_setI q with q | ⟨o, e1, e2⟩
    · exact st.lw j z q
    · obtain ⟨g1, n1⟩ := k5 o z e1 e2
      exact .inr ((hG z g1).resolve_left n1)
  · have ne : i ≠ j := fun e => hM (e ▸ hj)
    rw [List.getElem?_set_ne ne, List.getElem?_set_ne ne]
    exact st.kp j hj
  · rcases q with q | q
    · exact .inl (k2 z q)
    · rcases own_set q with q | ⟨o, e1, e2⟩
      · exact .inr q
      · exact .inl (k5 o z e1 e2).1
theorem ixN_eq (n : Nat) (i : Int) : Pi.ixN n i = L2.ixN n i := rfl
theorem setIx_some {i : Nat} {k v : PV} {u : Unit} (h : setIx i k v ρ = .ok u ρ') : (∃ xs j m, ρ[i]? = some (some (.own (.lst xs))) ∧ k = .int j ∧ Pi.ixN xs.length j = some m ∧ ρ' = ρ.set i (some (.own (.lst (xs.set m v))))) ∨
    ∃ es, ρ[i]? = some (some (.own (.dic es))) ∧ dkOk es k = true ∧ es.length < szL ∧ ρ' = ρ.set i (some (.own (.dic (putD es k v)))) := by
  unfold setIx at h
  split at h
  · rename_i xs hx
    split at h
    · rename_i j
      split at h
      · rename_i m hm
        cases h
        exact .inl ⟨xs, j, m, hx, rfl, hm, rfl⟩
      · cases h
    · cases h
  · rename_i es hx
    split at h
    · rename_i c
      simp only [Bool.and_eq_true, decide_eq_true_eq] at c
      cases h
      exact .inr ⟨es, hx, c.1, c.2, rfl⟩
    · cases h
  · cases h
theorem setIx_ne {i : Nat} {k v : PV} {c : Str} {fs : List (Str × PV)} : setIx i k v ρ ≠ .exc c fs ρ' := by
  unfold setIx
  intro h
  split at h
  · split at h
    · split at h <;> cases h
    · cases h
  · split at h <;> cases h
  · cases h
def rSetA (K : PySem.W.Frag) (mg : MG) : TSet := fun o i v H Q => rSetL o i v H Q ∨ rSetD K mg o i v H Q
theorem set_all (hu : X.A.units + 65 < cLine) : PSet X (rSetA X.K X.mm) := fun pins s σ H o i v ov iv u Q I ro ri rv h => h.elim (fun h => set_list pins s σ H o i v ov iv u Q I ro ri rv h) fun h => dic_set hu pins s σ H o i v ov iv u Q I ro ri rv h
theorem rSetA_mono {o i v : V} {Q Q' : Hp → Prop} (h : rSetA K mg o i v H Q) (k : ∀ H', Q H' → Q' H') : rSetA K mg o i v H Q' := by
  rcases h with ⟨p, xs, kk, j, a1, a2, a3, a4, a5⟩ | ⟨N, es, kk, w, a1, a2, a3, a4, a5, a6⟩
  · exact .inl ⟨p, xs, kk, j, a1, a2, a3, a4, k _ a5⟩
  · exact .inr ⟨N, es, kk, w, a1, a2, a3, a4, a5, fun a ob xs vs e sh r => k _ (a6 a ob xs vs e sh r)⟩
theorem LS.ix {ρ0 : Env} {σ0 : St} {H0 : Hp} {i : Nat} {k : OP} {ls : List LT} {x : XV} {xs : List XV} {w : V} {ws : List V} (h : LS K mg W M F ρ0 σ0 H0 D (.ix i k :: ls) (x :: xs) ρ σ H (w :: ws)) :
    tVar i σ H fun o H1 => tO K mg W k σ H1 fun iv H2 => rSetA K mg o iv w H2 fun H3 => ∃ ρ', LS K mg W M F ρ0 σ0 H0 D ls xs ρ' σ H3 ws := by
  obtain ⟨G, st, hF, hG, re, rv, g⟩ := h
  simp only [asgL] at g
  split at g
  · rename_i ys hi
    obtain ⟨l, h1, _⟩ := re.own i ys hi
    refine ⟨.ref l, h1, G, ρ, re, ?_⟩
    cases q : k ρ with
    | bad => rw [q] at g; exact g.elim
    | exc c fs ρ1 => rw [q] at g; exact fun H' cls d f lo r xx => g σ H' cls d (st.trans (Stp.x f lo)) (r.less hF) xx
    | ok r ρ1 =>
    rw [q] at g
    simp only [Out.bd] at g
    intro H1 iv f1 l1 rr
    have re1 : RE K mg G ρ1 σ H1 := rr.re
    cases hd : dr ρ1 r with
    | none => rw [hd] at g; exact g.elim
    | some j =>
    rw [hd] at g
    simp only at g
    cases hs : setIx i j x.val ρ1 with
    | bad => rw [hs] at g; exact g.elim
    | exc c fs ρ2 => exact absurd hs setIx_ne
    | ok u ρ2 =>
    rw [hs] at g
    simp only [Out.bd] at g
    have rv1 := RVl.frV f1 re l1 rv
    obtain ⟨G', k1, k2, k3, k4, k5⟩ := RVl.headV re1 hF rv1
    have rx := k3 H0 hG
    have reG : RE K mg G' ρ1 σ H1 := re1.less k2
    rcases setIx_some hs with ⟨zs, kk, m, hx, rfl, hm, rfl⟩ | ⟨es, hx, hok, hlen, rfl⟩
    · obtain rfl := (RR.now rr hd).int_
      obtain ⟨l', e1, e2⟩ := re1.own i _ hx
      rw [h1] at e1; cases e1
      cases e2 with
      | mk e2 sh hz =>
        cases sh with
        | lst =>
        obtain ⟨q1, q2, q3⟩ := reG.updOwn hx h1 (ws := _) ((hz.weak fun z q => q.imp (k2 z) id).set (rx.kept (D := l)) m)
        refine .inl ⟨l, _, kk, m, rfl, rfl, e2, ?_, ρ1.set i (some (.own (.lst (zs.set m x.val)))), G', st.trans ((Stp.x f1 l1).trans (Stp.x q2 q3)), k1, fun z q => hG z (k2 z q), q1, ?_, g⟩
        · rw [← hz.length, ← ixN_eq]; exact hm
        · exact RVl.move (fun z q => q.imp (k2 z) fun q => q.mono q3) (RVl.updV e2 Mut.lst ⟨i, _, hx, h1⟩ re1 (RVl.tl rv1)) k4
    · obtain ⟨l', e1, e2⟩ := re1.own i _ hx
      rw [h1] at e1; cases e1
      have e2' : RepO K mg (NN G' ρ1 σ) H1 (.dic es) l := e2.weak fun z q => q.imp (k2 z) id
      have rk := RR.now rr hd
      obtain ⟨ob0, e3, m3⟩ := e2.there
      refine .inr ⟨NN G' ρ1 σ, es, j, x.val, .own e2', rk.weak fun z q => q.imp (k2 z) id, hok, hlen, rx.kept (D := l), fun a ob ys vs ea sh hs2 => ?_⟩
      cases ea
      obtain ⟨q1, q2, q3⟩ := reG.updOwnG hx h1 sh hs2
      exact ⟨ρ1.set i (some (.own (.dic (putD es j x.val)))), G', st.trans ((Stp.x f1 l1).trans (Stp.x q2 q3)), k1, fun z q => hG z (k2 z q), q1, RVl.move (fun z q => q.imp (k2 z) fun q => q.mono q3) (RVl.updV e3 m3 ⟨i, _, hx, h1⟩ re1 (RVl.tl rv1)) k4, g⟩
  · exact g.elim
inductive LTsOk (X : Cx) (W : WX) (M : List Nat) : List Expr → List LT → Prop
  | nil : LTsOk X W M [] []
  | nm {i : Nat} {x : Str} {p : Pos} {es : List Expr} {ls : List LT} : X.N[i]? = some x → Loc X.env.scope x → (X.fn x = true ∨ X.env.scope.names.lookup x = some .local) → i ∉ M → LTsOk X W M es ls → LTsOk X W M (.Name x p :: es) (.nm i :: ls)
  | ix {i : Nat} {x : Str} {k : Expr} {d : OP} {p1 p2 : Pos} {es : List Expr} {ls : List LT} : X.N[i]? = some x → Vis X.env.scope x → (x == ("__debug__" : Str)) = false → (x == ("__classdict__" : Str)) = false → PE X k (tO X.K X.mm W d) → isSl k = false → LTsOk X W M es ls →
    LTsOk X W M (.Subscript (.Name x p1) k p2 :: es) (.ix i d :: ls)
def tLs (K : PySem.W.Frag) (mg : MG) (W : WX) (M : List Nat) (ls : List LT) : TGs := fun vs σ H Q => ∃ F ρ0 σ0 H0 D xs ρ, LS K mg W M F ρ0 σ0 H0 D ls xs ρ σ H vs ∧ ∀ σ' H', D.nx σ' H' → Q σ' H'
theorem assign_ix {o i : Expr} {env : PySem.Env} {v : Value} (h : isSl i = false) : assign (.Subscript o i pos) env v = (do
      let ov ← holding [v] (eval o env)
      let iv ← holding [v, ov] (eval i env)
      standAt pos
      holding [v, ov, iv] (setItem ov iv v)
      release [v, ov, iv] []) := by
  cases i <;> first | rfl | (simp [isSl] at h)
theorem pgs_ls (hu : X.A.units + 65 < cLine) (hN : X.N.Nodup) : ∀ {es : List Expr} {ls : List LT}, LTsOk X W M es ls → PGs X es (tLs X.K X.mm W M ls)
  | _, _, .nil => PGs.imp pgs_nil fun vs σ H Q h => by
    obtain ⟨F, ρ0, σ0, H0, D, xs, ρ, h, k⟩ := h
    obtain ⟨h1, h2⟩ := h.nil
    exact ⟨h1, k σ H h2⟩
  | _, _, .nm h1 h2 h3 h4 t => PGs.imp (pgs_cons (pg_name hN h1 h2 h3) (pgs_ls hu hN t) rfl) fun vs σ H Q h => by
    obtain ⟨F, ρ0, σ0, H0, D, xs, ρ, h, k⟩ := h
    obtain ⟨x, xs', w, ws', rfl, rfl⟩ := h.len
    exact ⟨w, ws', rfl, F, ρ0, σ0, H0, D, xs', _, h.nm h4, k⟩
  | _, _, .ix h1 h2 h3 h4 h5 h6 t => by
    refine PGs.imp (pgs_cons (pg_sub (pe_var h1 h2 h3 h4) h5 (set_all hu) fun v => assign_ix h6) (pgs_ls hu hN t) rfl) fun vs σ H Q h => ?_
    obtain ⟨F, ρ0, σ0, H0, D, xs, ρ, h, k⟩ := h
    obtain ⟨x, xs', w, ws', rfl, rfl⟩ := h.len
    obtain ⟨o, e1, q⟩ := h.ix
    exact ⟨w, ws', rfl, o, e1, q.mono fun v H' q => rSetA_mono q fun H3 ⟨ρ', a5⟩ => ⟨F, ρ0, σ0, H0, D, xs', ρ', a5, k⟩⟩
/-- the values of a row, then its stores -/
theorem row_reads {ls : List LT} {ds : List E} {Q1 : List V → Hp → Prop} (h : tS K mg W M (sPar ls ds) D σ H)
    (k : ∀ F ρ xs ρ1 H1 vs, xs.length = ds.length → LS K mg W M F ρ σ H D ls xs ρ1 σ H1 vs → Q1 vs H1) : tOs K mg W (ds.map oE) σ H Q1 := by
  obtain ⟨F, ρ, re, g⟩ := h
  refine ⟨F, ρ, re, ?_⟩
  rw [ops_oE]
  simp only [sPar] at g
  cases q : evs ds ρ with
  | bad => rw [q] at g; exact g.elim
  | exc c fs ρ1 => rw [q] at g; exact fun H' cls d f l r x => g σ H' cls d (Stp.x f l) r x
  | ok xs ρ1 =>
    rw [q] at g
    intro H1 vs f1 l1 r1
    obtain ⟨G, hF, hG, re1, rv⟩ := r1
    exact k F ρ xs ρ1 H1 vs (evs_len q) ⟨G, Stp.x f1 l1, hF, hG, re1, rv, g⟩
theorem LS.same {ρ0 : Env} {σ0 : St} {H0 : Hp} {ls : List LT} {xs : List XV} {vs : List V} (s : Same H H1) (h : LS K mg W M F ρ0 σ0 H0 D ls xs ρ σ H vs) : LS K mg W M F ρ0 σ0 H0 D ls xs ρ σ H1 vs := by
  obtain ⟨G, st, hF, hG, re, rv, g⟩ := h
  exact ⟨G, st.trans (Stp.x (Fr.of_same s) (LeO.refl _)), hF, hG, re.same s, RVl.frV (Fr.of_same s) re (LeO.refl _) rv, g⟩
theorem LS.lens {ρ0 : Env} {σ0 : St} {H0 : Hp} {ls : List LT} {xs : List XV} {vs : List V} (h : LS K mg W M F ρ0 σ0 H0 D ls xs ρ σ H vs) : xs.length = vs.length := by
  obtain ⟨G, st, hF, hG, re, rv, g⟩ := h
  have := rv.lens
  simpa using this
theorem each_ls {env : PySem.Env} : ∀ {es : List Expr} {ls : List LT}, LTsOk X W M es ls → (assignEach es env).length = ls.length ∧ (assignEach es env).findIdx? (·.1) = none
  | _, _, .nil => ⟨rfl, rfl⟩
  | _, _, .nm (es := es) _ _ _ _ t => by
    obtain ⟨h1, h2⟩ := each_ls (env := env) t
    refine ⟨congrArg Nat.succ h1, ?_⟩
    show ((false, _) :: assignEach es env).findIdx? (·.1) = none
    rw [List.findIdx?_cons]; simp [h2]
  | _, _, .ix (es := es) _ _ _ _ _ _ t => by
    obtain ⟨h1, h2⟩ := each_ls (env := env) t
    refine ⟨congrArg Nat.succ h1, ?_⟩
    show ((false, _) :: assignEach es env).findIdx? (·.1) = none
    rw [List.findIdx?_cons]; simp [h2]
/-- the general row: a tuple is made and taken apart -/
theorem ps_rowA {ts ws : List Expr} {ls : List LT} {ds : List E} {k1 k2 : Nat} {p1 p2 : Pos} (hu : X.A.units + 65 < cLine) (hc : X.calm = true) (hN : X.N.Nodup) (hl : ds.length ≤ 1000) (hlen : ls.length = ds.length) (h : LTsOk X W M ts ls) (hw : Paired (fun e d => isStar e = false ∧ PE X e (tE X.K X.mm W d)) ws ds)
    (hsw : swappedStores [.Tuple ts k1 p1] (.Tuple ws k2 p2) X.env = pure none) : PS X (.Assign [.Tuple ts k1 p1] (.Tuple ws k2 p2) pos) (tS X.K X.mm W M (sPar ls ds)) := by
  refine PS.imp (ps_asg (pe_tup (pa_evs (W := W) hw)) (pg_tup (n := ls.length) hc (pgs_ls (W := W) (M := M) hu hN h) (each_ls h).1 (each_ls h).2) rfl hsw rfl) fun D σ H q => ?_
  refine row_reads q fun F ρ xs ρ1 H1 vs hx ls' => ?_
  have e1 := ls'.lens
  refine ⟨by rw [← e1, hx]; have e : sizeLine = 16777216 := sizeLine_eq; omega, fun p hp => ⟨p, vs, rfl, SqT.of upd_same, by rw [← e1, hx, hlen], F, ρ, σ, H, D, xs, ρ1, ls'.same (same_upd hp), fun _ _ z => z⟩⟩
theorem ps_row2 {x y : Str} {i j : Nat} {a b : Expr} {da db : E} {px py : Pos} {k1 k2 : Nat} {p1 p2 : Pos} (hc : X.calm = true) (hN : X.N.Nodup) (hi : X.N[i]? = some x) (hj : X.N[j]? = some y) (hij : i ≠ j) (hx : X.env.scope.names.lookup x = some .local) (hy : X.env.scope.names.lookup y = some .local) (mi : i ∉ M) (mj : j ∉ M)
    (hw : Paired (fun e d => isStar e = false ∧ PE X e (tE X.K X.mm W d)) [a, b] [da, db]) (hsw : swappedStores [.Tuple [.Name x px, .Name y py] k1 p1] (.Tuple [a, b] k2 p2) X.env = pure (some [x, y])) :
    PS X (.Assign [.Tuple [.Name x px, .Name y py] k1 p1] (.Tuple [a, b] k2 p2) pos) (tS X.K X.mm W M (sPar [.nm i, .nm j] [da, db])) := by
  refine PS.imp (ps_par hc hN hi hj hij hx hy (pa_evs (W := W) hw) hsw rfl) fun D σ H q => ?_
  refine row_reads q fun F ρ xs ρ1 H1 vs hl ls => ?_
  obtain ⟨u, xs1, v, vs1, rfl, rfl⟩ := ls.len
  have ls1 := ls.nm mi
  obtain ⟨u2, xs2, v2, vs2, rfl, rfl⟩ := ls1.len
  obtain ⟨e, d⟩ := (ls1.nm mj).nil
  subst e
  exact ⟨v, v2, rfl, d⟩
theorem ps_row3 {x y z : Str} {i j l : Nat} {a b c : Expr} {da db dc : E} {px py pz : Pos} {k1 k2 : Nat} {p1 p2 : Pos} (hc : X.calm = true) (hN : X.N.Nodup) (hi : X.N[i]? = some x) (hj : X.N[j]? = some y) (hl : X.N[l]? = some z) (hij : i ≠ j) (hil : i ≠ l) (hjl : j ≠ l) (hx : X.env.scope.names.lookup x = some .local)
    (hy : X.env.scope.names.lookup y = some .local) (hz : X.env.scope.names.lookup z = some .local) (mi : i ∉ M) (mj : j ∉ M) (ml : l ∉ M)
    (hw : Paired (fun e d => isStar e = false ∧ PE X e (tE X.K X.mm W d)) [a, b, c] [da, db, dc]) (hsw : swappedStores [.Tuple [.Name x px, .Name y py, .Name z pz] k1 p1] (.Tuple [a, b, c] k2 p2) X.env = pure (some [x, y, z])) :
    PS X (.Assign [.Tuple [.Name x px, .Name y py, .Name z pz] k1 p1] (.Tuple [a, b, c] k2 p2) pos) (tS X.K X.mm W M (sPar [.nm i, .nm j, .nm l] [da, db, dc])) := by
  refine PS.imp (ps_par3 hc hN hi hj hl hij hil hjl hx hy hz (pa_evs (W := W) hw) hsw rfl) fun D σ H q => ?_
  refine row_reads q fun F ρ xs ρ1 H1 vs hl ls => ?_
  obtain ⟨u, xs1, v, vs1, rfl, rfl⟩ := ls.len
  have ls1 := ls.nm mi
  obtain ⟨u2, xs2, v2, vs2, rfl, rfl⟩ := ls1.len
  have ls2 := ls1.nm mj
  obtain ⟨u3, xs3, v3, vs3, rfl, rfl⟩ := ls2.len
  obtain ⟨e, d⟩ := (ls2.nm ml).nil
  subst e
  exact ⟨v, v2, v3, rfl, d⟩
/-- slot i [k] = e -/
theorem ps_stI {x : Str} {i : Nat} {k : Expr} {e : Expr} {dk : OP} {d : E} {p1 p2 : Pos} (hu : X.A.units + 65 < cLine) (hN : X.N.Nodup) (h1 : X.N[i]? = some x) (h2 : Vis X.env.scope x) (h3 : (x == ("__debug__" : Str)) = false) (h4 : (x == ("__classdict__" : Str)) = false) (h5 : PE X k (tO X.K X.mm W dk)) (h6 : isSl k = false) (he : PE X e (tE X.K X.mm W d))
    (hs : swapsWithSole [.Subscript (.Name x p1) k p2] e pos.line X.env = pure false) (hw : swappedStores [.Subscript (.Name x p1) k p2] e X.env = pure none) : PS X (.Assign [.Subscript (.Name x p1) k p2] e pos) (tS X.K X.mm W M (sStI i dk d)) := by
  refine PS.imp (ps_asg he (pg_sub (pe_var h1 h2 h3 h4) h5 (set_all hu) fun v => assign_ix h6) hs hw rfl) fun D σ H q => ?_
  obtain ⟨F, ρ, re, g⟩ := q
  refine ⟨F, ρ, re, GoS.bdE g fun y ρ1 H1 v f1 l1 r1 g1 => ?_⟩
  have ls : LS X.K X.mm W M F ρ σ H D [.ix i dk] [y] ρ1 σ H1 [v] := by
    refine ⟨FX F y v, Stp.x f1 l1, FX.sub, fun z q => ?_, RX.re' r1, ?_, g1⟩
    · cases y with
      | pv t => cases v <;> exact .inl q
      | own o =>
        obtain ⟨l, rfl, h0, _⟩ := r1
        exact (show FF F l z from q).imp id fun q => (by rw [q]; exact h0)
    · cases y with
      | pv t =>
        refine ⟨r1.1.weak fun z q => ?_, trivial⟩
        cases v <;> exact q
      | own o =>
        obtain ⟨l, rfl, h0, n1, n2, r2, r3⟩ := r1
        exact ⟨⟨l, rfl, .inr rfl, n1, r2, fun j o' e => by simp at e⟩, trivial⟩
  obtain ⟨o, e1, q⟩ := ls.ix
  exact ⟨o, e1, q.mono fun v H' q => rSetA_mono q fun H3 ⟨ρ', a5⟩ => a5.nil.2⟩

/-! ### if, while, for -/
theorem if_reads {t : T} {s u : S} (h : tS K mg W M (sIf t s u) D σ H) : tIfS (tT K mg W t) (tS K mg W M s) (tS K mg W M u) D σ H := by
  obtain ⟨F, ρ, re, g⟩ := h
  refine ⟨F, ρ, re, GoS.bdE g fun c ρ1 H1 b f1 l1 r1 g1 => ?_⟩
  obtain ⟨rfl, re1⟩ := r1
  cases b with
  | true => exact ⟨F, ρ1, re1, GoS.shift (Stp.x f1 l1) (fun _ z => z) g1⟩
  | false => exact ⟨F, ρ1, re1, GoS.shift (Stp.x f1 l1) (fun _ z => z) g1⟩
theorem while_reads {t : T} {s : S} {n : Nat} (h : tS K mg W M (whl t s n) D σ H) : tWhile (tT K mg W t) (tS K mg W M s) D σ H := by
  obtain ⟨F, ρ, re, g⟩ := h
  refine ⟨fun m σ' H' => ∃ ρ', RE K mg F ρ' σ' H' ∧ GoS K mg W M F ρ' σ' H' D (whl t s m ρ'), ⟨n, ρ, re, g⟩, ?_⟩
  rintro m σ' H' ⟨ρ', re', g'⟩
  cases m with
  | zero => exact g'.elim
  | succ m =>
    rw [whl] at g'
    refine ⟨F, ρ', re', GoS.bdE g' fun c ρ1 H1 b f1 l1 r1 g1 => ?_⟩
    obtain ⟨rfl, re1⟩ := r1
    cases b with
    | false =>
      rw [if_neg (by simp)] at g1 ⊢
      exact g1 σ' H1 (Stp.x f1 l1) re1
    | true =>
      rw [if_pos rfl] at g1 ⊢
      refine ⟨fun σ2 H2 => ∃ ρ2, RE K mg F ρ2 σ2 H2 ∧ GoS K mg W M F ρ2 σ2 H2 D (whl t s m ρ2), fun σ2 H2 q => ⟨m, by omega, q⟩, F, ρ1, re1, ?_⟩
      have g2 := GoS.shift (Stp.x f1 l1) (fun _ z => z) g1
      cases q : s ρ1 with
      | bad => rw [q] at g2; exact g2
      | exc c fs ρ2 => rw [q] at g2; exact g2
      | ok f ρ2 =>
        rw [q] at g2
        cases f with
        | nx => exact fun σ2 H2 st re2 => ⟨ρ2, re2, GoS.shift st (fun _ z => z) g2⟩
        | cnt => exact fun σ2 H2 st re2 => ⟨ρ2, re2, GoS.shift st (fun _ z => z) g2⟩
        | brk => exact g2
        | ret x => exact g2
theorem for_reads {sr : Src} {g : Pi.TG} {s : S} (hM : ∀ i ∈ M, i ∉ tgS g) (h : tS K mg W M (sFor sr g s) D σ H) : tFor (tI K mg W sr) (tGp K mg g) (tS K mg W M s) D σ H := by
  obtain ⟨F, ρ, re, g0⟩ := h
  refine ⟨F, ρ, re, GoS.bdE g0 fun xs ρ1 H1 J f1 l1 ri g1 => ?_⟩
  obtain ⟨G, hF, hG, reG, wk⟩ := ri
  have g1' := GoS.shift (Stp.x f1 l1) hF g1
  refine ⟨fun i m σ' H' => m = xs.length - i ∧ i ≤ xs.length ∧ ∃ ρ', Stp M ρ1 σ H1 ρ' σ' H' ∧ RE K mg G ρ' σ' H' ∧ GoS K mg W M G ρ' σ' H' D (forL g s (xs.drop i) ρ'), ⟨xs.length, by simp, Nat.zero_le _, ρ1, Stp.refl, reG, g1'⟩, ?_⟩
  rintro i m σ' H' ⟨rfl, hi, ρ', st, re', g'⟩
  obtain ⟨wk1, wk2⟩ := wk H' ρ' σ' G st.fr.f st.lw.w (fun a q => .inl q) re'
  by_cases hlt : i < xs.length
  · obtain ⟨x, hx⟩ : ∃ x, xs[i]? = some x := ⟨xs[i], by simp [hlt]⟩
    have hdrop : xs.drop i = x :: xs.drop (i + 1) := by
      rw [List.drop_eq_getElem_cons hlt]
      have := List.getElem?_eq_getElem hlt
      rw [this] at hx; cases hx; rfl
    obtain ⟨hgo, hy⟩ := wk1 i x hx
    refine .inr ⟨hgo, fun σ2 H2 => ∃ ρ2, Stp M ρ1 σ H1 ρ2 σ2 H2 ∧ RE K mg G ρ2 σ2 H2 ∧ GoS K mg W M G ρ2 σ2 H2 D (forL g s (xs.drop (i + 1)) ρ2), fun σ2 H2 q => ⟨xs.length - (i + 1), by omega, rfl, hlt, q⟩, fun v H2 yl => ?_⟩
    obtain ⟨sm, rv⟩ := hy v H2 yl
    rw [hdrop, forL] at g'
    cases hb : bT g (.pv x) ρ' with
    | exc c fs ρa => exact absurd hb bT_ne.1
    | bad => rw [hb] at g'; exact g'.elim
    | ok u ρa =>
    rw [hb] at g'
    simp only [Out.bd] at g'
    refine ⟨G, ρ', x, rv, re'.same sm, ρa, hb, fun σ3 re3 os oe ow => ?_⟩
    have s3 : Stp M ρ' σ' H' ρa σ3 H2 := ⟨Fr.of_same sm, fun j z q => .inl (ow j z q), fun j hj => ⟨os.2 j (hM j hj), fun o ho => ⟨o, by rw [← oe.2 j (hM j hj)]; exact ho⟩⟩⟩
    have g2 := GoS.shift s3 (fun _ z => z) g'
    refine ⟨G, ρa, re3, ?_⟩
    cases q : s ρa with
    | bad => rw [q] at g2; exact g2
    | exc c fs ρ2 => rw [q] at g2; exact g2
    | ok f ρ2 =>
      rw [q] at g2
      cases f with
      | nx => exact fun σ4 H4 s4 re4 => ⟨ρ2, st.trans (s3.trans s4), re4, GoS.shift s4 (fun _ z => z) g2⟩
      | cnt => exact fun σ4 H4 s4 re4 => ⟨ρ2, st.trans (s3.trans s4), re4, GoS.shift s4 (fun _ z => z) g2⟩
      | brk => exact g2
      | ret x => exact g2
  · have e : i = xs.length := by omega
    subst e
    rw [List.drop_length, forL] at g'
    exact .inl ⟨wk2, g' σ' H' Stp.refl re'⟩

/-! ### return, raise, an expression alone -/
theorem ret_reads {d : E} (h : tS K mg W M (sRet d) D σ H) : tRet (tE K mg W d) D σ H := by
  obtain ⟨F, ρ, re, g⟩ := h
  refine ⟨F, ρ, re, GoS.bdE g fun x ρ1 H1 v f1 l1 r1 g1 => g1 σ H1 v (Stp.x f1 l1) (RRet.of r1)⟩
theorem retN_reads (h : tS K mg W M sRetN D σ H) : tRetN D σ H := by
  obtain ⟨F, ρ, re, g⟩ := h
  exact g σ H .non Stp.refl ⟨.non, re⟩
theorem nx_reads (h : tS K mg W M sNx D σ H) : tNext D σ H := by
  obtain ⟨F, ρ, re, g⟩ := h
  exact g σ H Stp.refl re
theorem brk_reads (h : tS K mg W M (fun ρ => .ok .brk ρ) D σ H) : tBreak D σ H := by
  obtain ⟨F, ρ, re, g⟩ := h
  exact g σ H Stp.refl re
theorem cnt_reads (h : tS K mg W M (fun ρ => .ok .cnt ρ) D σ H) : tCont D σ H := by
  obtain ⟨F, ρ, re, g⟩ := h
  exact g σ H Stp.refl re
theorem expr_reads {d : E} (h : tS K mg W M (sExpr d) D σ H) : tDrop (tE K mg W d) D σ H := by
  obtain ⟨F, ρ, re, g⟩ := h
  refine ⟨F, ρ, re, GoS.bdE g fun x ρ1 H1 v f1 l1 r1 g1 => g1 σ H1 (Stp.x f1 l1) (RX.re r1)⟩
theorem raise_reads {c : Str} {C : Addr} (hm : mg c = some (.ref C)) (h : tS K mg W M (sRaise c) D σ H) : W (.ref C) none σ H := by
  obtain ⟨F, ρ, re, g⟩ := h
  exact g σ H (.ref C) none Stp.refl re ⟨⟨C, rfl, hm⟩, .inl ⟨rfl, rfl⟩⟩
/-- return of a name whose object goes along -/
theorem retV_reads {i : Nat} (hM : i ∉ M) (h : tS K mg W M (sRetV i) D σ H) : ∃ x, σ[i]? = some (some x) ∧ D.rt x H := by
  obtain ⟨F, ρ, re, g⟩ := h
  simp only [sRetV] at g
  split at g
  · rename_i v q
    obtain ⟨x, h1, h2⟩ := re.pv i v q
    exact ⟨x, h1, g σ H x Stp.refl ⟨h2, re⟩⟩
  · rename_i o q
    obtain ⟨l, h1, h2⟩ := re.own i o q
    have hl : i < ρ.length := (List.getElem?_eq_some_iff.mp q).1
    have lo : LeO (ρ.set i none) ρ := fun j o' h => by
      by_cases e : i = j
      · subst e; rw [List.getElem?_set_self hl] at h; cases h
      · rw [List.getElem?_set_ne e] at h; exact ⟨o', h⟩
    have no : ¬ Own (ρ.set i none) σ l := fun ⟨j, o', e1, e2⟩ => by
      by_cases e : i = j
      · subst e; rw [List.getElem?_set_self hl] at e1; cases e1
      · rw [List.getElem?_set_ne e] at e1
        exact e (re.dist i j l ⟨o, q, h1⟩ ⟨o', e1, e2⟩)
    have w : ∀ z, NN (FF F l) (ρ.set i none) σ z → NN F ρ σ z := fun z y => y.elim (fun y => y.elim .inl fun y => .inr (y ▸ ⟨i, o, q, h1⟩)) fun y => .inr (y.mono lo)
    refine ⟨.ref l, h1, g σ H _ (Stp.x (Fr.refl _ _ _) lo) ⟨l, rfl, .inl ⟨i, hM, o, q, h1⟩, fun y => re.apart l y ⟨i, o, q, h1⟩, no, h2.weak w, ?_⟩⟩
    refine ⟨by rw [List.length_set]; exact re.len, fun j v h => ?_, fun j o' h => ?_, fun j k z h1 h2 => ?_, fun z y t => ?_, fun z y => ?_⟩
    · by_cases e : i = j
      · subst e; rw [List.getElem?_set_self hl] at h; cases h
      · rw [List.getElem?_set_ne e] at h
        obtain ⟨x, a1, a2⟩ := re.pv j v h
        exact ⟨x, a1, a2.weak w⟩
    · by_cases e : i = j
      · subst e; rw [List.getElem?_set_self hl] at h; cases h
      · rw [List.getElem?_set_ne e] at h
        obtain ⟨x, a1, a2⟩ := re.own j o' h
        exact ⟨x, a1, a2.weak w⟩
    · obtain ⟨o1, e1, e2⟩ := h1
      obtain ⟨o2, e3, e4⟩ := h2
      obtain ⟨p1, q1⟩ := lo j o1 e1
      obtain ⟨p2, q2⟩ := lo k o2 e3
      exact re.dist j k z ⟨p1, q1, e2⟩ ⟨p2, q2, e4⟩
    · rcases y with y | y
      · exact re.apart z y (t.mono lo)
      · exact no (y ▸ t)
    · rcases y with y | y
      · exact re.there z y
      · subst y
        exact re.isMut ⟨i, o, q, h1⟩
  · exact g.elim
end
end Pi

/-! Pi, part 13: comprehensions of two clauses. -/
namespace Pi
open PySem PySem.Spec L2
section
variable {X : Cx} {K : PySem.W.Frag} {mg : MG} {N N' F F' F1 G : NA} {H H' H0 H1 H2 : Hp} {ρ ρ' ρ1 ρ2 : Env} {σ σ' σ1 σ2 : St} {W : WX}
variable {vs vs1 : List Nat}
theorem FrD.stepD {D : Addr} (f : FrD D ρ σ H H1) (g : FrD D ρ1 σ1 H1 H2) (w : ∀ a, Own ρ1 σ1 a → Own ρ σ a ∨ H a = none) : FrD D ρ σ H H2 :=
  ⟨fun a o h n q d => g.keep a o (f.keep a o h n q d) n (fun z => (w a z).elim q fun z => (by rw [h] at z; cases z)) d, fun a o h => let ⟨o', h'⟩ := f.up a o h; g.up a o' h'⟩
theorem wipe_in (σ : St) (h : ∀ i ∈ vs1, i ∈ vs) : L2.wipe (L2.wipe σ vs1) vs = L2.wipe σ vs := by
  apply List.ext_getElem?
  intro i
  by_cases hi : i ∈ vs
  · by_cases hl : i < σ.length
    · rw [wipeS_some hi (by rw [L2.wipe_length]; exact hl), wipeS_some hi hl]
    · rw [List.getElem?_eq_none (by rw [L2.wipe_length, L2.wipe_length]; omega), List.getElem?_eq_none (by rw [L2.wipe_length]; omega)]
  · rw [L2.wipe_out hi, L2.wipe_out hi, L2.wipe_out fun z => hi (h i z)]
theorem own_wipe2 {z : Addr} (h : ∀ i ∈ vs1, i ∈ vs) (q : Own (Pi.wipe vs ρ) (L2.wipe σ vs) z) : Own ρ (L2.wipe σ vs1) z := by
  obtain ⟨i, o, h1, h2⟩ := q
  obtain ⟨h3, h4⟩ := wipeE_some h1
  rw [L2.wipe_out h4] at h2
  exact ⟨i, o, h3, by rw [L2.wipe_out fun z => h4 (h i z)]; exact h2⟩
theorem lc2_reads {s s1 : Src} {g g1 : Pi.TG} {tt tt1 : T} {te : E} {Q : VK} (hvs : ∀ i ∈ tgS g, i ∈ vs) (hvs1 : ∀ i ∈ tgS g1, i ∈ vs1) (hvv : ∀ i ∈ vs1, i ∈ vs) (h : tE K mg W (eLc2 vs vs1 s g tt s1 g1 tt1 te) σ H Q) :
    tLc2 (tI K mg W s) (tGp K mg g) (tT K mg W0 tt) (tI K mg W0 s1) (tGp K mg g1) (tT K mg W0 tt1) (tE K mg W0 te) vs vs1 σ H Q := by
  obtain ⟨F, ρ, re, g0⟩ := h
  refine ⟨F, ρ, re, Go.bd g0 fun xs ρ1 H1 J f1 l1 ri g1' => ?_⟩
  obtain ⟨G, hF, hG, reG, wk⟩ := ri
  split at g1'
  · rename_i hn
    cases hL : lcL2 vs vs1 g tt s1 g1 tt1 te xs (Pi.wipe vs ρ1) with
    | exc c fs ρF => rw [hL] at g1'; exact g1'.elim
    | bad => rw [hL] at g1'; exact g1'.elim
    | ok tot ρF =>
    rw [hL] at g1'
    simp only [nox, Out.bd] at g1'
    split at g1'
    · rename_i hl
      intro D hD
      let ρs := Pi.wipe vs ρ1
      let σs := L2.wipe σ vs
      let FD : NA := FF G D
      have hw : L2.wipe σs vs = σs := wipe_wipe σ vs
      have sm0 : Same H1 (upd H1 D (.lst [])) := same_upd hD
      have re0 : RE K mg FD ρs σs (upd H1 D (.lst [])) := (RE.beside sm0 reG hD upd_same Mut.lst).wipe vs
      have hDF : FD D := .inr rfl
      have hFD : ∀ a, FD a → G a ∨ H1 a = none := fun a q => q.imp id fun q => (by rw [q]; exact hD)
      let Iv : Nat → Hp → Prop := fun i Hc => ∃ ρ' done rest acc, lcL2 vs vs1 g tt s1 g1 tt1 te (xs.drop i) ρ' = .ok rest ρF ∧ done ++ rest = tot ∧ LeO ρ' ρs ∧ FrD D ρs σs (upd H1 D (.lst [])) Hc ∧ RE K mg FD ρ' σs Hc ∧ Hc D = some (.lst acc) ∧ RepVs K mg (NN FD ρ' σs) Hc done acc
      refine ⟨fun i m Hc => m = xs.length - i ∧ i ≤ xs.length ∧ Iv i Hc, ⟨xs.length, by simp, Nat.zero_le _, ρs, [], tot, [], by simpa using hL, rfl, LeO.refl _, FrD.refl _ _ _ _, re0, upd_same, .nil⟩, ?_⟩
      rintro i m Hc ⟨rfl, hi, ρ', done, rest, acc, hr, hdr, le, fd, re, hDc, rd⟩
      have frc : FrF F ρ1 σ H1 Hc := ⟨fun a o h n q _ => fd.keep a o (sm0 _ _ h) n (fun z => q (own_wipe z)) (fun z => by subst z; rw [hD] at h; cases h), fun a o h => fd.up a o (sm0 _ _ h)⟩
      have lwc : LeW ρ1 σ H1 ρ' σs := fun a q => .inl (own_wipe (q.mono le))
      obtain ⟨wk1, wk2⟩ := wk Hc ρ' σs FD frc lwc hFD re
      by_cases hlt : i < xs.length
      · obtain ⟨x, hx⟩ : ∃ x, xs[i]? = some x := ⟨xs[i], by simp [hlt]⟩
        have hdrop : xs.drop i = x :: xs.drop (i + 1) := by
          rw [List.drop_eq_getElem_cons hlt]
          have := List.getElem?_eq_getElem hlt
          rw [this] at hx; cases hx; rfl
        obtain ⟨hgo, hy⟩ := wk1 i x hx
        refine .inr ⟨hgo, fun H' => Iv (i + 1) H', fun H' q => ⟨xs.length - (i + 1), by omega, rfl, hlt, q⟩, fun v H' yl => ?_⟩
        obtain ⟨sm, rv⟩ := hy v H' yl
        rw [hdrop, lcL2] at hr
        cases hb : bT g (.pv x) ρ' with
        | exc c fs ρa => rw [hb] at hr; cases hr
        | bad => rw [hb] at hr; cases hr
        | ok u ρa =>
        rw [hb] at hr
        simp only [Out.bd] at hr
        refine ⟨FD, ρ', x, rv, re.same sm, ρa, hb, fun σ2 rea os oe owI => ?_⟩
        have hwe : L2.wipe σ2 vs = σs := by
          have := wipe_oth (σ := σs) (vs := vs) (σ2 := σ2) (u := tgS g) (by rw [hw]; exact os) hvs
          rw [this, hw]
        refine ⟨hwe, ?_⟩
        have ow : ∀ z, Own ρa σ2 z → Own ρ' σs z := fun z ⟨j, q⟩ => ⟨j, owI j z q⟩
        have hDa : H' D = some (.lst acc) := sm _ _ hDc
        have fda : FrD D ρs σs (upd H1 D (.lst [])) H' := fd.step (Fr.of_same (ρ := ρs) (σ := σs) sm) fun a q => .inl q
        have owa : ∀ a, Own ρa σ2 a → Own ρs σs a := fun a q => (ow a q).mono le
        cases ht : tt ρa with
        | exc c fs ρb => rw [ht] at hr; cases hr
        | bad => rw [ht] at hr; cases hr
        | ok cc ρb =>
        rw [ht] at hr
        simp only [Out.bd] at hr
        refine ⟨FD, ρa, rea, ?_⟩
        rw [ht]
        intro H3 b f3 l3 ⟨e3, re3⟩
        subst e3
        have hD3 : H3 D = some (.lst acc) := f3.keep D _ hDa (by intro ps e; cases e) (rea.apart D hDF)
        have fd3 : FrD D ρs σs (upd H1 D (.lst [])) H3 := fda.step f3 fun a q => .inl (owa a q)
        have ow3 : ∀ a, Own ρb σ2 a → Own ρs σs a := fun a q => owa a (q.mono l3)
        have rd3 : RepVs K mg (NN FD ρb σ2) H3 done acc := ((rd.same sm).weak (N' := NN FD ρa σ2) fun z q => q.imp id (ow z)).fr f3 rea l3
        have leW : ∀ ρc, LeO ρc ρb → LeO (Pi.wipe vs ρc) ρs := fun ρc lc j o h => by
          obtain ⟨h1, h2⟩ := wipeE_some h
          obtain ⟨o1, h3⟩ := (lc.trans l3) j o h1
          rw [oe.2 j fun z => h2 (hvs j z)] at h3
          exact le j o1 h3
        cases b with
        | false =>
          rw [if_neg (by simp)] at hr ⊢
          have rw3 := re3.wipe vs
          rw [hwe] at rw3
          refine ⟨Pi.wipe vs ρb, done, rest, acc, hr, hdr, leW ρb (LeO.refl _), fd3, rw3, hD3, rd3.weak fun z q => q.imp id fun q => ?_⟩
          have : Own (Pi.wipe vs ρb) (L2.wipe σ2 vs) z := by rw [hwe]; exact q
          exact own_wipe this
        | true =>
          rw [if_pos rfl] at hr ⊢
          cases hs : s1 ρb with
          | exc c fs ρc => rw [hs] at hr; cases hr
          | bad => rw [hs] at hr; cases hr
          | ok zs ρ3 =>
          rw [hs] at hr
          simp only [Out.bd] at hr
          cases hq : lcL vs1 g1 tt1 te zs (Pi.wipe vs1 ρ3) with
          | exc c fs ρd => rw [hq] at hr; cases hr
          | bad => rw [hq] at hr; cases hr
          | ok ys ρ4 =>
          rw [hq] at hr
          simp only [Out.bd] at hr
          cases hq2 : lcL2 vs vs1 g tt s1 g1 tt1 te (xs.drop (i + 1)) (Pi.wipe vs ρ4) with
          | exc c fs ρd => rw [hq2] at hr; cases hr
          | bad => rw [hq2] at hr; cases hr
          | ok wss ρ5 =>
          rw [hq2] at hr
          simp only [Out.bd, Out.ok.injEq] at hr
          obtain ⟨hr1, hr2⟩ := hr
          subst hr1 hr2
          refine ⟨FD, ρb, re3, ?_⟩
          rw [hs]
          intro H4 J1 f4 l4 ri1
          obtain ⟨G1, hF1, hG1, reG1, wkI⟩ := ri1
          have hD4 : H4 D = some (.lst acc) := f4.keep D _ hD3 (by intro ps e; cases e) (re3.apart D hDF)
          have fd4 : FrD D ρs σs (upd H1 D (.lst [])) H4 := fd3.step f4 fun a q => .inl (ow3 a q)
          have owW : ∀ z, Own (Pi.wipe vs1 ρ3) (L2.wipe σ2 vs1) z → Own ρ3 σ2 z := fun z q => own_wipe q
          have rd4 : RepVs K mg (NN G1 (Pi.wipe vs1 ρ3) (L2.wipe σ2 vs1)) H4 done acc :=
            rd3.go f4 re3 (fun z q => q.elim (fun q => (hG1 z q).imp .inl id) fun q => .inl (.inr ((owW z q).mono l4))) fun z q => .inr q
          refine lc_loop (F := FD) (End := fun Hc => Iv (i + 1) Hc) hvs1 wkI (wipe_wipe σ2 vs1) ⟨fun _ _ h _ _ _ => h, fun _ o h => ⟨o, h⟩⟩ (fun a q => .inl (owW a q)) (FD := G1) (fun a q => .inl q) (fun a q => q) (.inl hDF) (hF1 D hDF) (reG1.wipe vs1) hD4 rd4 hq ?_ ?_
          · have := congrArg List.length hdr
            simp only [List.length_append] at this ⊢
            omega
          · intro Hd acc2 fd5 le5 re5 hD5 rd5
            have re6 := ((re5.less hF1).wipe vs)
            rw [wipe_in σ2 hvv, hwe] at re6
            have l5 : LeO ρ4 ρb := le5.trans (fun j o h => l4 j o (wipeE_some h).1)
            refine ⟨Pi.wipe vs ρ4, done ++ ys, wss, acc2, hq2, by rw [← hdr, List.append_assoc], leW ρ4 l5, fd4.stepD fd5 fun a q => .inl (ow3 a ((owW a q).mono l4)), re6, hD5, rd5.weak fun z q => q.elim (fun q => .inl (hF1 z q)) fun q => .inr ?_⟩
            have : Own (Pi.wipe vs ρ4) (L2.wipe σ2 vs) z := by rw [hwe]; exact q
            exact own_wipe2 hvv this
      · have e : i = xs.length := by omega
        subst e
        rw [List.drop_length, lcL2] at hr
        cases hr
        rw [List.append_nil] at hdr
        subst hdr
        refine .inl ⟨wk2, ?_⟩
        have frw : Fr (Pi.wipe vs ρ1) (L2.wipe σ vs) H1 Hc := ⟨fun a o h n q => fd.keep a o (sm0 _ _ h) n q fun z => (by subst z; rw [hD] at h; cases h), fun a o h => fd.up a o (sm0 _ _ h)⟩
        obtain ⟨rb, lo, owb⟩ := back_RE hn reG frw le hFD re
        have fr1 : Fr ρ1 σ H1 Hc := ⟨fun a o h n q => frw.keep a o h n fun z => q (own_wipe z), frw.up⟩
        have fall : Fr ρ σ H Hc := f1.trans l1 fr1
        refine g1' Hc (.ref D) fall (lo.trans l1) ⟨D, rfl, f1.none hD, fun q => ?_, fun q => rb.apart D (.inr rfl) q, .mk hDc .lst (rd.weak fun z q => q.elim (fun q => .inl (q.imp (hF z) id)) fun q => .inr (owb z q)), rb.less fun a q => q.imp (hF a) id⟩
        obtain ⟨o, e, _⟩ := reG.there D (hF D q)
        rw [hD] at e; cases e
    · exact g1'.elim
  · exact g1'.elim
end
end Pi

/-! Pi, part 14: what the compiler makes is what the text does. -/
namespace Pi
open PySem PySem.Spec L2
structure CxOk (X : Cx) (C : CC) (W : WX) (k : Nat) : Prop where
  calm : X.calm = true
  nd : X.N.Nodup
  names : X.N = C.N
  kind : X.env.scope.kind = .function
  lo : ∀ x, C.sc.lookup x = some .local → X.env.scope.names.lookup x = some .local
  ce : ∀ x, C.sc.lookup x = some .cell → X.env.scope.names.lookup x = some .cell
  fr : ∀ x, C.sc.lookup x = some .free → X.env.scope.names.lookup x = some .cell ∨ X.env.scope.names.lookup x = some .free
  gl : ∀ x, C.sc.lookup x = some .globalImplicit → X.env.scope.names.lookup x = some .globalImplicit
  fn : ∀ x, C.sc.lookup x = some .cell → X.fn x = true
  tk : Takes X W
  room : Room k X.A
  val : ∀ x v, C.G x = some v → ∃ (u : Value) (w : V), X.mg x = some u ∧ RelV w u ∧ ∀ N H, RepV X.K X.mm N H v w
  dfs : ∀ x g, C.G x = some (.fn g) → ∃ f fd ps np, X.mg x = some (.ref f) ∧ FnOk X.prog X.w X.K X.mm X.base (L2.CX X.prog X.w) k f fd ps (spOf X.K X.mm np (C.Φ g)) ∧ (∀ xs, xs.length ≠ np → C.Φ g xs = .bad) ∧ PySem.W.keepIn X.K (.ref f) = true ∧ Binds X.K fd ps []
  bi : ∀ x, C.bi x = true → X.mg x = none
section
variable {X : Cx} {C : CC} {W : WX} {k : Nat} {rE : CEx} {rT : CTx}
variable {a b c e tg : Expr} {es : List Expr} {pos p : Pos}
theorem CxOk.at (ok : CxOk X C W k) {x : Str} {i : Nat} (h : C.at x = some i) : X.N[i]? = some x ∧ (x == ("__debug__" : Str)) = false ∧ (x == ("__classdict__" : Str)) = false := by
  unfold CC.at at h
  split at h
  · cases h
  · rename_i hn
    simp only [Bool.or_eq_true, not_or, Bool.not_eq_true] at hn
    rw [List.findIdx?_eq_some_iff_getElem] at h
    obtain ⟨hl, h1, _⟩ := h
    rw [ok.names, List.getElem?_eq_getElem hl]
    exact ⟨congrArg some (eq_of_beq h1), hn.1, hn.2⟩
theorem CxOk.var (ok : CxOk X C W k) {x : Str} {i : Nat} (h : C.var x = some i) : X.N[i]? = some x ∧ (x == ("__debug__" : Str)) = false ∧ (x == ("__classdict__" : Str)) = false ∧ Vis X.env.scope x := by
  unfold CC.var at h
  split at h
  · rename_i q
    obtain ⟨h1, h2, h3⟩ := ok.at h
    exact ⟨h1, h2, h3, .inl (ok.lo _ q)⟩
  · rename_i q
    obtain ⟨h1, h2, h3⟩ := ok.at h
    exact ⟨h1, h2, h3, .inr (.inl (ok.ce _ q))⟩
  · rename_i q
    obtain ⟨h1, h2, h3⟩ := ok.at h
    exact ⟨h1, h2, h3, .inr (ok.fr _ q)⟩
  · cases h
theorem CxOk.loc (ok : CxOk X C W k) {x : Str} {i : Nat} (h : C.loc x = some i) : X.N[i]? = some x ∧ Loc X.env.scope x ∧ (X.fn x = true ∨ X.env.scope.names.lookup x = some .local) := by
  unfold CC.loc at h
  split at h
  · rename_i q
    exact ⟨(ok.at h).1, .inl (ok.lo _ q), .inr (ok.lo _ q)⟩
  · rename_i q
    exact ⟨(ok.at h).1, .inr (ok.ce _ q), .inl (ok.fn _ q)⟩
  · cases h
theorem CxOk.glob (ok : CxOk X C W k) {x : Str} (h : C.glob x = true) : Gl X x ∧ (x == ("__debug__" : Str)) = false := by
  unfold CC.glob at h
  split at h
  · rename_i q
    exact ⟨ok.gl _ q, by simpa using h⟩
  · cases h
theorem CxOk.isB (ok : CxOk X C W k) {f x : Str} (h : C.isB f x = true) : f = x ∧ Gl X x ∧ X.mg x = none := by
  unfold CC.isB at h
  simp only [Bool.and_eq_true] at h
  obtain ⟨⟨h1, h2⟩, h3⟩ := h
  obtain rfl := eq_of_beq h1
  exact ⟨rfl, (ok.glob h2).1, ok.bi _ h3⟩
abbrev EOk (X : Cx) (C : CC) (W : WX) (rE : CEx) : Prop := ∀ e, PE X e (tE X.K X.mm W (rE C e))
abbrev TOk (X : Cx) (C : CC) (W : WX) (rT : CTx) : Prop := ∀ e, PT X e (tT X.K X.mm W (rT C e))
theorem cConst_ok {c : Const} {j : Nat} : PE X (.Constant c j pos) (tE X.K X.mm W (cConst c)) := by
  unfold cConst
  split
  · exact pe_eC (t := tC .non) pe_int fun N H => .int _
  · exact pe_eC (t := tC .non) pe_str fun N H => .str _
  · exact pe_eC (t := tC .non) pe_bl fun N H => .bl _
  · exact pe_eC (t := tC .non) pe_non fun N H => .non
  · exact pe_bad
theorem cName_ok (ok : CxOk X C W k) {x : Str} : PE X (.Name x pos) (tE X.K X.mm W (cName C x)) := by
  unfold cName
  split
  · rename_i i h
    obtain ⟨h1, h2, h3, h4⟩ := ok.var h
    exact pe_eVar h1 h4 h2 h3
  · split
    · rename_i h
      obtain ⟨g1, g2⟩ := ok.glob h
      split
      · rename_i v hv
        obtain ⟨u, w, h1, h2, h3⟩ := ok.val x v hv
        exact pe_eC (t := tC .non) (pe_glob g1 h1 h2 g2) h3
      · exact pe_bad
    · exact pe_bad
theorem cP_ok (ok : CxOk X C W k) (hE : EOk X C W rE) (e : Expr) : PE X e (tO X.K X.mm W (cP rE C e)) := by
  unfold cP
  split
  · split
    · rename_i i h
      obtain ⟨h1, h2, h3, h4⟩ := ok.var h
      exact pe_oVar h1 h4 h2 h3
    · exact pe_oE (hE _)
  · exact pe_oE (hE _)
theorem cPart_ok (ok : CxOk X C W k) (hE : EOk X C W rE) : ∀ e, L2.PO X e (tP X.K X.mm W (cPart rE C e))
  | none => po_noneA
  | some e => po_someA (cP_ok ok hE e)
theorem cBool_ok (hE : EOk X C W rE) (op : BoolOp) : ∀ vs, PE X (.BoolOp op vs pos) (tE X.K X.mm W (cBool rE C op vs))
  | [] => pe_bad
  | [a] => pe_one (hE a)
  | a :: b :: r => by
    cases op with
    | And => exact pe_andA (hE a) (cBool_ok hE .And (b :: r))
    | Or => exact pe_orA (hE a) (cBool_ok hE .Or (b :: r))
theorem cBoolT_ok (hT : TOk X C W rT) (op : BoolOp) : ∀ vs, PW X (.BoolOp op vs pos) (tT X.K X.mm W (cBoolT rT C op vs))
  | [] => ⟨fun _ _ _ _ _ _ _ h => by obtain ⟨_, _, _, z⟩ := h; exact z.elim⟩
  | [a] => by
    cases op with
    | And => exact pw_and1 (hT a)
    | Or => exact pw_or1 (hT a)
  | a :: b :: r => by
    cases op with
    | And => exact pw_andA (hT a) (cBoolT_ok hT .And (b :: r))
    | Or => exact pw_orA (hT a) (cBoolT_ok hT .Or (b :: r))
theorem pe_oPv {d : E} (h : PE X e (tE X.K X.mm W d)) : PE X e (tO X.K X.mm W (oPv d)) := PE.imp h fun σ H Q q => by
  obtain ⟨F, ρ, r, g⟩ := q
  refine ⟨F, ρ, r, ?_⟩
  simp only [oPv] at g
  cases q : d ρ with
  | bad => rw [q] at g; exact g
  | exc c fs ρ1 => rw [q] at g; exact g
  | ok x ρ1 =>
    rw [q] at g
    exact fun H1 v f l rx => g H1 v f l ⟨rx.kept (D := 0), rx.re⟩
theorem cArgs_ok (ok : CxOk X C W k) (hE : EOk X C W rE) (io : List Nat) : ∀ (n : Nat) (es : List Expr), es.any isStar = false → Paired (fun e d => isStar e = false ∧ PE X e (tO X.K X.mm W d)) es (cArgs rE C io n es)
  | _, [], _ => .nil
  | n, e :: es, h => by
    rw [List.any_cons, Bool.or_eq_false_iff] at h
    refine .cons ⟨h.1, ?_⟩ (cArgs_ok ok hE io (n + 1) es h.2)
    split
    · exact cP_ok ok hE e
    · exact pe_oPv (hE e)
theorem map_ok (hE : EOk X C W rE) : ∀ {es : List Expr}, es.any isStar = false → Paired (fun e d => isStar e = false ∧ PE X e (tE X.K X.mm W d)) es (es.map (rE C))
  | [], _ => .nil
  | e :: es, h => by
    rw [List.any_cons, Bool.or_eq_false_iff] at h
    exact .cons ⟨h.1, hE e⟩ (map_ok hE h.2)
theorem cB_list {g : PV → Option XV} {f : Str} (h : (f == ("list" : Str)) = true) : True := trivial
theorem cBi_ok (ok : CxOk X C W k) (hE : EOk X C W rE) {f : Str} {args : List Expr} (hg : Gl X f) (hm : X.mg f = none) (hs : args.any isStar = false) : PE X (.Call (.Name f p) args [] pos) (tE X.K X.mm W (cBi rE C f args)) := by
  have st1 : ∀ {a : Expr}, ([a] : List Expr).any isStar = false → isStar a = false := fun {a} h => by simpa using h
  unfold cBi
  split
  · split
    · rename_i r p1 as p2 h
      rw [Bool.and_eq_true] at h
      obtain rfl := eq_of_beq h.1
      obtain ⟨rfl, g2, m2⟩ := ok.isB h.2
      unfold cRange
      split
      · rename_i s hs2
        split at hs2
        · split at hs2
          · cases hs2
          · rename_i hst
            cases hs2
            exact pe_lr1 ok.calm hg hm g2 m2 (by simpa using hst) (cP_ok ok hE _)
        · split at hs2
          · cases hs2
          · rename_i hst
            cases hs2
            have this := Bool.or_eq_false_iff.mp (Bool.eq_false_iff.mpr hst)
            exact pe_lr2 ok.calm hg hm g2 m2 this.1 this.2 (cP_ok ok hE _) (cP_ok ok hE _)
        · cases hs2
      · exact pe_bad
    · split
      · rename_i r p1 as p2 _ h
        rw [Bool.and_eq_true] at h
        obtain rfl := eq_of_beq h.1
        obtain ⟨rfl, g2, m2⟩ := ok.isB h.2
        split
        · split
          · exact pe_bad
          · rename_i hst
            exact pe_sortSet ok.calm hg hm g2 m2 (by simpa using hst) (cP_ok ok hE _)
        · exact pe_bad
      · split
        · rename_i g hb
          exact pe_b1 hb (by have := ok.room.un; omega) ok.calm hg hm rfl (cP_ok ok hE _)
        · exact pe_bad
  · split
    · rename_i g hb
      exact pe_b1 hb (by have := ok.room.un; omega) ok.calm hg hm (st1 hs) (cP_ok ok hE _)
    · exact pe_bad
  · have s2 := (Bool.or_eq_false_iff.mp (List.any_cons ▸ hs)).1
    split
    · rename_i hf
      obtain rfl := eq_of_beq hf
      split
      · rename_i hty
        rw [Bool.and_eq_true] at hty
        split
        · rename_i n hn
          exact pe_isiA hn hg hm (ok.glob hty.1).1 (ok.bi _ hty.2) s2 (cP_ok ok hE _)
        · exact pe_bad
      · exact pe_bad
    · split
      · rename_i g hb
        exact pe_b2 hb ok.calm hg hm s2 rfl (cP_ok ok hE _) (cP_ok ok hE _)
      · exact pe_bad
  · rw [List.any_cons, Bool.or_eq_false_iff] at hs
    split
    · rename_i g hb
      exact pe_b2 hb ok.calm hg hm hs.1 (st1 hs.2) (cP_ok ok hE _) (cP_ok ok hE _)
    · exact pe_bad
  · exact pe_bad
theorem cCall_ok (ok : CxOk X C W k) (hE : EOk X C W rE) {f : Str} {args : List Expr} : PE X (.Call (.Name f p) args [] pos) (tE X.K X.mm W (cCall rE C f args)) := by
  unfold cCall
  split
  · exact pe_bad
  · rename_i a as
    split
    · exact pe_bad
    · rename_i hst
      have hst : (a :: as).any isStar = false := by simpa using hst
      split
      · rename_i i hv
        obtain ⟨h1, h2, h3, h4⟩ := ok.var hv
        refine pe_slotA (k := k) (fun g hg => ?_) ok.room ok.tk h1 h4 h2 h3 (cArgs_ok ok hE [] 0 (a :: as) hst)
        unfold CC.isD at hg
        split at hg
        · rename_i g' hG
          obtain rfl := eq_of_beq hg
          exact ok.dfs _ _ hG
        · cases hg
      · split
        · rename_i hgl
          obtain ⟨g1, g2⟩ := ok.glob hgl
          split
          · rename_i g hG
            obtain ⟨fa, fd, ps, np, h1, h2, h3, h4, h5⟩ := ok.dfs _ _ hG
            exact pe_defA h2 h3 ok.room ok.tk g1 h1 h4 h5 g2 (cArgs_ok ok hE (C.io g) 0 (a :: as) hst)
          · exact pe_bad
          · split
            · rename_i hb
              exact cBi_ok ok hE g1 (ok.bi _ hb) hst
            · exact pe_bad
        · exact pe_bad
/-- a display as target -/
theorem isTup_is (h : isTup tg = true) : ∃ es j q, tg = .Tuple es j q := by
  cases tg with
  | Tuple es j q => exact ⟨es, j, q, rfl⟩
  | _ => simp [isTup] at h
theorem cSrc_ok (ok : CxOk X C W k) (hE : EOk X C W rE) {it : Expr} {s : Src} (h : cSrc rE C (isTup tg) it = some s) : PI X tg it (tI X.K X.mm W s) ∧ ∀ env x, foldedSetIterable it env x = pure x := by
  unfold cSrc at h
  split at h
  · split at h
    · cases h
    · rename_i hst
      refine ⟨?_, fun _ _ => rfl⟩
      have hst := Bool.eq_false_iff.mpr hst
      split at h
      · rename_i hb
        obtain ⟨rfl, g1, m1⟩ := ok.isB hb
        cases h
        exact pi_r1A g1 m1 hst (cP_ok ok hE _)
      · split at h
        · rename_i hb
          rw [Bool.and_eq_true] at hb
          obtain ⟨rfl, g1, m1⟩ := ok.isB hb.1
          obtain ⟨es, j, q, rfl⟩ := isTup_is hb.2
          cases h
          exact pi_enA g1 m1 hst (hE _)
        · cases h
          exact pi_eA (hE _)
  · split at h
    · cases h
    · rename_i hst
      refine ⟨?_, fun _ _ => rfl⟩
      have hst := Bool.or_eq_false_iff.mp (Bool.eq_false_iff.mpr hst)
      split at h
      · rename_i hb
        obtain ⟨rfl, g1, m1⟩ := ok.isB hb
        cases h
        exact pi_r2A g1 m1 hst.1 hst.2 (cP_ok ok hE _) (cP_ok ok hE _)
      · split at h
        · rename_i hb
          rw [Bool.and_eq_true] at hb
          obtain ⟨rfl, g1, m1⟩ := ok.isB hb.1
          obtain ⟨es, j, q, rfl⟩ := isTup_is hb.2
          cases h
          exact pi_zpA g1 m1 hst.1 hst.2 (hE _) (hE _)
        · cases h
          exact pi_eA (hE _)
  · cases h
  · rename_i hn
    cases h
    refine ⟨pi_eA (hE _), fun env x => ?_⟩
    cases it <;> first | rfl | exact absurd rfl (hn _ _ _)
theorem cTG_ok (ok : CxOk X C W k) : ∀ n, (∀ e, sizeOf e ≤ n → ∀ g, cTG C e = some g → TGOk X e g ∧ ∀ i ∈ C.mine, i ∉ tgS g) ∧ ∀ es : List Expr, sizeOf es ≤ n → ∀ gs, cTGs C es = some gs → TGsOk X es gs ∧ ∀ i ∈ C.mine, i ∉ tgsS gs := by
  intro n
  induction n with
  | zero =>
    refine ⟨fun e he => ?_, fun es he => ?_⟩
    · cases e <;> simp at he
    · cases es <;> simp at he
  | succ n ih =>
    refine ⟨fun e he g h => ?_, fun es he gs h => ?_⟩
    · cases e with
      | Name x q =>
        rw [cTG] at h
        obtain ⟨i, h1, h2⟩ := Option.bind_eq_some_iff.mp h
        split at h2
        · cases h2
        · rename_i hm
          cases h2
          obtain ⟨a1, a2, a3⟩ := ok.loc h1
          refine ⟨.nm a1 a2 a3, fun j hj e => ?_⟩
          simp [tgS] at e
          subst e
          exact hm (by simpa using hj)
      | Tuple ts j q =>
        rw [cTG] at h
        obtain ⟨gs, h1, rfl⟩ := Option.map_eq_some_iff.mp h
        obtain ⟨a1, a2⟩ := ih.2 ts (by simp at he; omega) gs h1
        exact ⟨.tp a1, a2⟩
      | _ => rw [cTG] at h <;> first | cases h | simp
    · cases es with
      | nil => rw [cTGs] at h; cases h; exact ⟨.nil, fun _ _ => by simp [tgsS]⟩
      | cons e es =>
        rw [cTGs] at h
        obtain ⟨g, h1, h2⟩ := Option.bind_eq_some_iff.mp h
        obtain ⟨gs', h3, rfl⟩ := Option.map_eq_some_iff.mp h2
        obtain ⟨a1, a2⟩ := ih.1 e (by simp at he; omega) g h1
        obtain ⟨b1, b2⟩ := ih.2 es (by simp at he; omega) gs' h3
        exact ⟨.cons a1 b1, fun i hi q => (List.mem_append.mp q).elim (a2 i hi) (b2 i hi)⟩
theorem cTG_is (ok : CxOk X C W k) {g : Pi.TG} (h : cTG C e = some g) : TGOk X e g ∧ ∀ i ∈ C.mine, i ∉ tgS g := (cTG_ok ok _).1 e (Nat.le_refl _) g h

/-! ### comprehensions -/
theorem ownIx_ok (ok : CxOk X C W k) : ∀ {ns : List (Str × NameKind)} {own : List (Str × Nat)}, ownIx C ns = some own → (∀ q ∈ own, X.N[q.2]? = some q.1) ∧ ∀ y ∈ ns, y.2 = .local ∨ y.2 = .cell → y.1 ∈ own.map (·.1) ∨ y.1 ∉ X.N
  | [], own, h => by rw [ownIx] at h; cases h; exact ⟨by simp, by simp⟩
  | (x, kk) :: r, own, h => by
    have step : ∀ {own' : List (Str × Nat)}, ((C.at x).bind fun i => (ownIx C r).map ((x, i) :: ·)) = some own' → (∀ q ∈ own', X.N[q.2]? = some q.1) ∧ ∀ y ∈ (x, kk) :: r, y.2 = .local ∨ y.2 = .cell → y.1 ∈ own'.map (·.1) ∨ y.1 ∉ X.N := fun {own'} h => by
      obtain ⟨i, h1, h2⟩ := Option.bind_eq_some_iff.mp h
      obtain ⟨o2, h3, rfl⟩ := Option.map_eq_some_iff.mp h2
      obtain ⟨a1, a2⟩ := ownIx_ok ok h3
      refine ⟨fun q hq => ?_, fun y hy e => ?_⟩
      · rcases List.mem_cons.mp hq with z | z
        · subst z; exact (ok.at h1).1
        · exact a1 q z
      · rcases List.mem_cons.mp hy with z | z
        · subst z; exact .inl (by simp)
        · exact (a2 y z e).imp (fun w => by simp only [List.map_cons, List.mem_cons]; exact .inr w) id
    have skip : ∀ {own' : List (Str × Nat)}, ownIx C r = some own' → ((kk = .local ∨ kk = .cell) → x ∉ X.N) → (∀ q ∈ own', X.N[q.2]? = some q.1) ∧ ∀ y ∈ (x, kk) :: r, y.2 = .local ∨ y.2 = .cell → y.1 ∈ own'.map (·.1) ∨ y.1 ∉ X.N := fun {own'} h hx => by
      obtain ⟨a1, a2⟩ := ownIx_ok ok h
      refine ⟨a1, fun y hy e => ?_⟩
      rcases List.mem_cons.mp hy with z | z
      · subst z; exact .inr (hx e)
      · exact a2 y z e
    cases kk with
    | «local» =>
      rw [ownIx] at h
      split at h
      · split at h
        · cases h
        · rename_i hc
          exact skip h fun _ z => hc (by rw [← ok.names]; simpa using z)
      · exact step h
    | cell => rw [ownIx] at h; exact step h
    | free => exact skip (by rw [ownIx] at h <;> first | exact h | (intro z; cases z)) fun z => by rcases z with z | z <;> cases z
    | globalImplicit => exact skip (by rw [ownIx] at h <;> first | exact h | (intro z; cases z)) fun z => by rcases z with z | z <;> cases z
    | globalExplicit => exact skip (by rw [ownIx] at h <;> first | exact h | (intro z; cases z)) fun z => by rcases z with z | z <;> cases z
theorem lookup_map_snd {g : Str × NameKind → Str × NameKind} (h1 : ∀ n kk, (g (n, kk)).1 = n) : ∀ (names : List (Str × NameKind)) (x : Str), (names.map g).lookup x = (names.lookup x).map fun kk => (g (x, kk)).2
  | [], x => rfl
  | (n, kk) :: r, x => by
    have e : g (n, kk) = (n, (g (n, kk)).2) := Prod.ext (h1 n kk) rfl
    rw [List.map_cons, e, List.lookup_cons, List.lookup_cons]
    cases hx : x == n with
    | true =>
      obtain rfl := eq_of_beq hx
      rfl
    | false => exact lookup_map_snd h1 r x
def rlab (env : PySem.Env) : Str × NameKind → Str × NameKind := fun (n, k) => if (k == NameKind.free && env.scope.kind == .function && env.kindOf n == some .cell) then (n, NameKind.cell) else (n, k)
theorem rlab_fst (env : PySem.Env) (n : Str) (kk : NameKind) : (rlab env (n, kk)).1 = n := by
  unfold rlab
  dsimp only
  split <;> rfl
theorem rlab_keep (env : PySem.Env) (n : Str) {kk : NameKind} (h : (kk == NameKind.free) = false) : (rlab env (n, kk)).2 = kk := by
  unfold rlab
  dsimp only
  rw [h]
  rfl
theorem rlab_free (env : PySem.Env) (n : Str) : (rlab env (n, .free)).2 = .cell ∨ (rlab env (n, .free)).2 = .free := by
  unfold rlab
  dsimp only
  split
  · exact .inl rfl
  · exact .inr rfl
theorem relabel_keep {env : PySem.Env} {sc : Scope} {x : Str} {kk : NameKind} (hk : (kk == NameKind.free) = false) (h : sc.names.lookup x = some kk) : (relabel sc env).names.lookup x = some kk := by
  show (sc.names.map (rlab env)).lookup x = _
  rw [lookup_map_snd (rlab_fst env), h, Option.map_some, rlab_keep env x hk]
theorem relabel_free {env : PySem.Env} {sc : Scope} {x : Str} (h : sc.names.lookup x = some .free) : (relabel sc env).names.lookup x = some .cell ∨ (relabel sc env).names.lookup x = some .free := by
  show (sc.names.map (rlab env)).lookup x = _ ∨ (sc.names.map (rlab env)).lookup x = _
  rw [lookup_map_snd (rlab_fst env), h, Option.map_some]
  exact (rlab_free env x).imp (congrArg some) (congrArg some)
theorem takesF {X : Cx} : Takes X W0 := fun _ _ x => by
  obtain ⟨_, _, _, _, _, _, _, _, _, _, _, _, _, _, _, _, z⟩ := x
  exact z.elim
theorem CxOk.blk (ok : CxOk X C W k) {sc : Scope} (hk : sc.kind = .function) (s : Shared) (H : Hp) (L : Addr) (cl : List (Str × Addr)) (fp : List Addr) : CxOk (X.blk s H sc (compEnvC sc cl L X.env) fp) (C.blk sc) W0 k where
  calm := ok.calm
  nd := ok.nd
  names := ok.names
  kind := hk
  lo := fun x h => relabel_keep (sc := sc) rfl h
  ce := fun x h => relabel_keep (sc := sc) rfl h
  fr := fun x h => relabel_free (sc := sc) h
  gl := fun x h => relabel_keep (sc := sc) rfl h
  fn := fun x h => by
    have h : sc.names.lookup x = some .cell := h
    show (sc.names.lookup x == some .cell) = true
    rw [h]; rfl
  tk := takesF
  room := ok.room
  val := ok.val
  dfs := ok.dfs
  bi := ok.bi
theorem pts_ok {ifs : List Expr} {tst : T} (hT : TOk X C W rT) (h : cTests rT C ifs = some tst) : PTs X ifs (tT X.K X.mm W tst) := by
  unfold cTests at h
  split at h
  · cases h
    exact ⟨fun pins s σ H Q I q => (pts_nil (X := X)).run pins s σ H Q I (by
      obtain ⟨F, ρ, re, g⟩ := q
      exact g H true (Fr.refl _ _ _) (LeO.refl _) ⟨rfl, re⟩)⟩
  · cases h
    exact pts_one (hT _)
  · cases h
theorem all_mem {u vs : List Nat} (h : u.all vs.contains = true) : ∀ i ∈ u, i ∈ vs := fun i hi => by
  have := List.all_eq_true.mp h i hi
  simpa using this
end
end Pi

/-! Pi, part 15: expressions, whole. -/
namespace Pi
open PySem PySem.Spec L2
section
variable {X : Cx} {C : CC} {W : WX} {k : Nat} {rE : CEx} {rT : CTx} {K : PySem.W.Frag} {mg : MG} {σ : St} {H : Hp} {M : List Nat}
variable {a b c e tg elt : Expr} {es : List Expr} {pos p spos : Pos}
abbrev AllE (rE : CEx) : Prop := ∀ X C W k, CxOk X C W k → EOk X C W rE
abbrev AllT (rT : CTx) : Prop := ∀ X C W k, CxOk X C W k → TOk X C W rT
theorem blkB_ok (ok : CxOk X C W k) {sc : Scope} {own : List (Str × Nat)} (h : blkB C sc = true) (ho : ownIx C sc.names = some own) : BlkOk X.N X.env.scope sc own ∧ sc.kind = .function := by
  unfold blkB at h
  simp only [Bool.and_eq_true, decide_eq_true_eq, List.all_eq_true] at h
  obtain ⟨⟨h1, h2⟩, h3⟩ := h
  obtain ⟨o1, o2⟩ := ownIx_ok ok ho
  refine ⟨⟨h1, h2, o1, fun y hy e => ?_, o2⟩, h1⟩
  have q := h3 y hy
  rw [e] at q
  simp only at q
  split at q
  · rename_i z; exact .inl (ok.ce _ z)
  · rename_i z; exact ok.fr _ z
  · cases q
/-- all that a comprehension's rule asks for -/
theorem lc1_args (ok : CxOk X C W k) (HE : AllE rE) (HT : AllT rT) {sc : Scope} {own : List (Str × Nat)} {t it : Expr} {ifs : List Expr} {s : Src} {g : Pi.TG} {tst : T} (hb : blkB C sc = true) (ho : ownIx C sc.names = some own) (hs : cSrc rE C (isTup t) it = some s) (hg : cTG (C.blk sc) t = some g)
    (ht : cTests rT (C.blk sc) ifs = some tst) :
    PI X t it (tI X.K X.mm W s) ∧ BlkOk X.N X.env.scope sc own ∧ (∀ (s : Shared) (H : Hp) (L : Addr) (cl : List (Str × Addr)) (fp : List Addr), PG (X.blk s H sc (compEnvC sc cl L X.env) fp) t (tGp X.K X.mm g)) ∧
      (∀ (s : Shared) (H : Hp) (L : Addr) (cl : List (Str × Addr)) (fp : List Addr), PTs (X.blk s H sc (compEnvC sc cl L X.env) fp) ifs (tT X.K X.mm W0 tst)) ∧
      (∀ (s : Shared) (H : Hp) (L : Addr) (cl : List (Str × Addr)) (fp : List Addr), PE (X.blk s H sc (compEnvC sc cl L X.env) fp) elt (tE X.K X.mm W0 (rE (C.blk sc) elt))) ∧ ∀ env x, foldedSetIterable it env x = pure x := by
  obtain ⟨b1, b2⟩ := blkB_ok ok hb ho
  obtain ⟨s1, s2⟩ := cSrc_ok ok (HE _ _ _ _ ok) hs
  refine ⟨s1, b1, fun s H L cl fp => ?_, fun s H L cl fp => ?_, fun s H L cl fp => ?_, s2⟩
  · have okb := ok.blk b2 s H L cl fp
    exact pg_ok okb.calm okb.nd (cTG_is okb hg).1
  · exact pts_ok (HT _ _ _ _ (ok.blk b2 s H L cl fp)) ht
  · exact HE _ _ _ _ (ok.blk b2 s H L cl fp) elt
theorem cComp_ok (ok : CxOk X C W k) (HE : AllE rE) (HT : AllT rT) {gs : List Comprehension} {sc : Scope} : PE X (.ListComp elt gs sc pos) (tE X.K X.mm W (cComp rE rT C elt gs sc)) := by
  unfold cComp
  split
  · rename_i hb
    split
    · rename_i own ho
      split
      · rename_i t it ifs
        split
        · rename_i s g tst hs hg ht
          split
          · rename_i hm
            obtain ⟨a1, a2, a3, a4, a5, a6⟩ := lc1_args (elt := elt) ok HE HT hb ho hs hg ht
            exact PE.imp (pe_lc ok.calm ok.nd a1 a2 a3 a4 a5 (a6 X.env)) fun σ H Q h => lc_reads (all_mem hm) h
          · exact pe_bad
        · exact pe_bad
      · rename_i t it ifs t1 it1 ifs1
        split
        · rename_i s g tst s1 g1 tst1 hs hg ht hs1 hg1 ht1
          split
          · rename_i hm
            simp only [Bool.and_eq_true] at hm
            obtain ⟨a1, a2, a3, a4, a5, a6⟩ := lc1_args (elt := elt) ok HE HT hb ho hs hg ht
            obtain ⟨b1, b2⟩ := blkB_ok ok hb ho
            have c1 : ∀ (s : Shared) (H : Hp) (L : Addr) (cl : List (Str × Addr)) (fp : List Addr), PI (X.blk s H sc (compEnvC sc cl L X.env) fp) t1 it1 (tI X.K X.mm W0 s1) := fun s H L cl fp => (cSrc_ok (ok.blk b2 s H L cl fp) (HE _ _ _ _ (ok.blk b2 s H L cl fp)) hs1).1
            have c2 : ∀ (s : Shared) (H : Hp) (L : Addr) (cl : List (Str × Addr)) (fp : List Addr), PG (X.blk s H sc (compEnvC sc cl L X.env) fp) t1 (tGp X.K X.mm g1) := fun s H L cl fp => by
              have okb := ok.blk b2 s H L cl fp
              exact pg_ok okb.calm okb.nd (cTG_is okb hg1).1
            have c3 : ∀ (s : Shared) (H : Hp) (L : Addr) (cl : List (Str × Addr)) (fp : List Addr), PTs (X.blk s H sc (compEnvC sc cl L X.env) fp) ifs1 (tT X.K X.mm W0 tst1) := fun s H L cl fp => pts_ok (HT _ _ _ _ (ok.blk b2 s H L cl fp)) ht1
            have c4 := fun (s : Shared) (H : Hp) (L : Addr) (cl : List (Str × Addr)) (fp : List Addr) => (cSrc_ok (ok.blk b2 s H L cl fp) (HE _ _ _ _ (ok.blk b2 s H L cl fp)) hs1).2
            have hv := all_mem hm.1.2
            exact PE.imp (pe_lc2 ok.calm ok.nd a1 a2 hv a3 a4 c1 c2 c3 a5 (a6 X.env) fun env x => c4 X.s_0 X.H_0 0 [] [] env x) fun σ H Q h => lc2_reads (all_mem hm.1.1) (fun _ z => z) hv h
          · exact pe_bad
        · exact pe_bad
      · exact pe_bad
    · exact pe_bad
  · exact pe_bad
theorem tE.mono {d : E} {Q Q' : VK} (h : tE K mg W d σ H Q) (i : ∀ v H', Q v H' → Q' v H') : tE K mg W d σ H Q' := by
  obtain ⟨F, ρ, re, g⟩ := h
  refine ⟨F, ρ, re, ?_⟩
  cases q : d ρ with
  | bad => rw [q] at g; exact g
  | exc c fs ρ1 => rw [q] at g; exact g
  | ok r ρ1 => rw [q] at g; exact fun H' v f l rr => i v H' (g H' v f l rr)
theorem gx_nm {i : Nat} {v : V} {Q : St → Hp → Prop} (h : tGx K mg (.nm i) v σ H Q) : gName i v σ H Q := by
  obtain ⟨F, ρ, x, H0, r, ρ', hb, k⟩ := h
  rw [bT] at hb
  cases hb
  refine k _ (RE.put r) oth_set othE_set fun j z q => (own_setI q).imp id fun ⟨o, e1, e2⟩ => ?_
  subst e1 e2
  obtain ⟨y, e, h0, _⟩ := r
  cases e; exact h0
theorem swapsC {gs : List Comprehension} {sc : Scope} {y : Str} {py : Pos} {l : Nat} {env : PySem.Env} : ∃ c : Bool, swapsWith (.ListComp elt gs sc pos) (some (.Name y py)) l env = pure c ∧ (c = true → env.kindOf y = some .local) := by
  refine ⟨_, rfl, fun h => ?_⟩
  simp only [Bool.and_eq_true] at h
  exact eq_of_beq h.1.1.2
/-- name = [..] -/
theorem ps_compA (ok : CxOk X C W k) (HE : AllE rE) (HT : AllT rT) {gs : List Comprehension} {sc : Scope} {y : Str} {py : Pos} {i : Nat} (h1 : X.N[i]? = some y) (h2 : Loc X.env.scope y) (h3 : X.fn y = true ∨ X.env.scope.names.lookup y = some .local) (hM : ∀ j ∈ M, j ∉ tgS (.nm i)) :
    PS X (.Assign [.Name y py] (.ListComp elt gs sc pos) spos) (tS X.K X.mm W M (sAsg (.nm i) (cComp rE rT C elt gs sc))) := by
  obtain ⟨cc, hsw, hloc⟩ := swapsC (elt := elt) (gs := gs) (sc := sc) (pos := pos) (y := y) (py := py) (l := spos.line) (env := X.env)
  have base : cc = false → PS X (.Assign [.Name y py] (.ListComp elt gs sc pos) spos) (tS X.K X.mm W M (sAsg (.nm i) (cComp rE rT C elt gs sc))) := fun hc => by
    subst hc
    exact PS.imp (ps_set ok.nd h1 h2 (cComp_ok ok HE HT) hsw h3) fun D σ H h => (asg_reads hM h).mono fun v H' q => gx_nm q
  have badc : ∀ {d : E}, (d = eBad) → PS X (.Assign [.Name y py] (.ListComp elt gs sc pos) spos) (tS X.K X.mm W M (sAsg (.nm i) d)) := fun {d} e => by
    subst e
    exact ⟨fun _ _ _ _ _ _ h => by obtain ⟨_, _, _, z⟩ := h; exact z.elim⟩
  cases cc with
  | false => exact base rfl
  | true =>
    have hyl : X.env.scope.names.lookup y = some .local := hloc rfl
    unfold cComp
    split
    · rename_i hb
      split
      · rename_i own ho
        split
        · rename_i t it ifs
          split
          · rename_i s g tst hs hg ht
            split
            · rename_i hm
              obtain ⟨a1, a2, a3, a4, a5, a6⟩ := lc1_args (elt := elt) ok HE HT hb ho hs hg ht
              exact PS.imp (ps_setLc ok.calm ok.nd h1 hyl hsw a1 a2 a3 a4 a5 (a6 X.env)) fun D σ H h => lc_reads (all_mem hm) ((asg_reads hM h).mono fun v H' q => gx_nm q)
            · exact badc rfl
          · exact badc rfl
        · rename_i t it ifs t1 it1 ifs1
          split
          · rename_i s g tst s1 g1 tst1 hs hg ht hs1 hg1 ht1
            split
            · rename_i hm
              simp only [Bool.and_eq_true] at hm
              obtain ⟨a1, a2, a3, a4, a5, a6⟩ := lc1_args (elt := elt) ok HE HT hb ho hs hg ht
              obtain ⟨b1, b2⟩ := blkB_ok ok hb ho
              have c1 : ∀ (s : Shared) (H : Hp) (L : Addr) (cl : List (Str × Addr)) (fp : List Addr), PI (X.blk s H sc (compEnvC sc cl L X.env) fp) t1 it1 (tI X.K X.mm W0 s1) := fun s H L cl fp => (cSrc_ok (ok.blk b2 s H L cl fp) (HE _ _ _ _ (ok.blk b2 s H L cl fp)) hs1).1
              have c2 : ∀ (s : Shared) (H : Hp) (L : Addr) (cl : List (Str × Addr)) (fp : List Addr), PG (X.blk s H sc (compEnvC sc cl L X.env) fp) t1 (tGp X.K X.mm g1) := fun s H L cl fp => by
                have okb := ok.blk b2 s H L cl fp
                exact pg_ok okb.calm okb.nd (cTG_is okb hg1).1
              have c3 : ∀ (s : Shared) (H : Hp) (L : Addr) (cl : List (Str × Addr)) (fp : List Addr), PTs (X.blk s H sc (compEnvC sc cl L X.env) fp) ifs1 (tT X.K X.mm W0 tst1) := fun s H L cl fp => pts_ok (HT _ _ _ _ (ok.blk b2 s H L cl fp)) ht1
              have c4 := fun (s : Shared) (H : Hp) (L : Addr) (cl : List (Str × Addr)) (fp : List Addr) => (cSrc_ok (ok.blk b2 s H L cl fp) (HE _ _ _ _ (ok.blk b2 s H L cl fp)) hs1).2
              have hv := all_mem hm.1.2
              exact PS.imp (ps_setLc2 ok.calm ok.nd h1 hyl hsw a1 a2 hv a3 a4 c1 c2 c3 a5 (a6 X.env) fun env x => c4 X.s_0 X.H_0 0 [] [] env x) fun D σ H h => lc2_reads (all_mem hm.1.1) (fun _ z => z) hv ((asg_reads hM h).mono fun v H' q => gx_nm q)
            · exact badc rfl
          · exact badc rfl
        · exact badc rfl
      · exact badc rfl
    · exact badc rfl

/-! ### all expressions -/
theorem marks_off {op : CmpOp} (h : ¬ isSet b = true) : behindInMarks op b = false := by
  cases b <;> first | rfl | exact absurd rfl h
def rRev (K : PySem.W.Frag) : V → Hp → VK → Prop := fun x H1 Q => ∃ a xs, x = V.ref a ∧ SqL K H1 a xs ∧ ∀ p, H1 p = none → Q (.ref p) (upd H1 p (.lst xs.reverse))
theorem un_rev : Un1 K mg revV (rRev K) := by
  intro N H p x z Q rp e k
  unfold revV at e
  split at e
  · cases e
    obtain ⟨a, vs, rfl, ha, hs⟩ := rp.lst_
    exact ⟨_, _, rfl, SqL.of ha, fun q hq => k _ _ (newL hq hs.reverse)⟩
  · cases e
theorem neg1_is {st : Expr} (h : isNeg1 (some st) = true) : ∃ j p1 p2, st = .UnaryOp .USub (.Constant (.int 1) j p1) p2 := by
  unfold isNeg1 at h
  split at h
  · rename_i j p1 p2 e
    cases e
    exact ⟨_, _, _, rfl⟩
  · cases h
theorem base_off {o : Expr} {n : Str} {env : PySem.Env} {x : Sem Value} (h : isCall0 o = false) : attributeBase o n env x = x := by
  cases o with
  | Call f as ks p => cases f <;> first | rfl | (cases as <;> first | rfl | (cases ks <;> first | rfl | (simp [isCall0] at h)))
  | _ => rfl
theorem stepE_ok (ok : CxOk X C W k) (HE : AllE rE) (HT : AllT rT) (e : Expr) : PE X e (tE X.K X.mm W (stepE rE rT C e)) := by
  have hE := HE _ _ _ _ ok
  have hT := HT _ _ _ _ ok
  have hu : X.A.units + 65 < cLine := by have := ok.room.un; omega
  have cp := cP_ok ok hE
  unfold stepE
  split
  · exact cConst_ok
  · exact cName_ok ok
  · exact pe_binA (cp _) (cp _)
  · exact pe_negA (cp _)
  · exact pe_notA (cp _)
  · exact cBool_ok hE _ _
  · split
    · exact pe_bad
    · rename_i h
      exact pe_cmpA hu (cp _) (cp _) (marks_off h)
  · split
    · exact pe_bad
    · rename_i h
      simp only [Bool.or_eq_true, not_or] at h
      exact pe_chainA hu (cp _) (cp _) (cp _) (marks_off h.2) (marks_off h.1) (marks_off h.2)
  · exact pe_ifA (hT _) (hE _) (hE _)
  · exact pe_slA (cp _) (cPart_ok ok hE _) (cPart_ok ok hE _)
  · split
    · rename_i h
      obtain ⟨j, p1, p2, rfl⟩ := neg1_is h
      exact PE.imp (pe_revL (cp _)) fun σ H Q q => un_reads (r := rRev X.K) un_rev q
    · exact pe_bad
  · exact pe_bad
  · rename_i i _ h1 h2 h3
    refine pe_ixA hu (cp _) (cp _) ?_
    intro o v
    cases i <;> first | rfl | exact absurd rfl (h3 _ _ _ _)
  · split
    · exact pe_bad
    · rename_i h
      simp only [Bool.or_eq_true, decide_eq_true_eq, not_or, Bool.not_eq_true] at h
      exact pe_tupA (by rw [List.length_map]; omega) (map_ok hE h.1)
  · split
    · exact pe_bad
    · rename_i h
      simp only [Bool.or_eq_true, decide_eq_true_eq, not_or, Bool.not_eq_true] at h
      exact pe_lstA (by rw [List.length_map]; omega) (map_ok hE h.1)
  · exact cCall_ok ok hE
  · rename_i o m ap a pos2
    split
    · exact pe_bad
    · rename_i hc
      simp only [Bool.or_eq_true, not_or, bne_iff_ne, Decidable.not_not, Bool.not_eq_true, ne_eq] at hc
      by_cases hm : (m == ("index" : Str)) = true
      · rw [if_pos hm]
        obtain rfl := eq_of_beq hm
        exact pe_index hu hc.1.1 (by simpa using hc.1.2) (cp _) (cp _) (base_off hc.2)
      · rw [if_neg hm]; exact pe_bad
  · exact pe_dic0
  · exact cComp_ok ok HE HT
  · exact pe_bad
theorem stepT_ok (ok : CxOk X C W k) (HE : AllE rE) (HT : AllT rT) (e : Expr) : PT X e (tT X.K X.mm W (stepT rE rT C e)) := by
  have hE := HE _ _ _ _ ok
  have hT := HT _ _ _ _ ok
  have hu : X.A.units + 65 < cLine := by have := ok.room.un; omega
  have cp := cP_ok ok hE
  have se := fun e => stepE_ok (e := e) ok HE HT
  cases e with
  | UnaryOp op a p =>
    cases op with
    | Not => exact pt_notA (hT a)
    | _ => exact pt_valA (se _) fun _ => rfl
  | BoolOp op vs p => exact (cBoolT_ok hT op vs).pt
  | Compare a ops bs p =>
    unfold stepT
    split
    · rename_i h; cases h
    · rename_i h; cases h
    · rename_i h
      cases h
      split
      · exact pt_bad
      · rename_i h
        exact pt_cmpA hu (cp _) (cp _) (marks_off h)
    · rename_i h
      cases h
      split
      · exact pt_bad
      · rename_i h
        simp only [Bool.or_eq_true, not_or] at h
        exact pt_chainA hu (cp _) (cp _) (cp _) (marks_off h.2)
    · exact pt_bad
    · exact pt_bad
    · rename_i h1 h2 h3 h4; exact absurd rfl (h3 _ _ _ _)
  | IfExp t a b p => exact pt_bad
  | _ => exact pt_valA (se _) fun _ => rfl
theorem cET_ok : ∀ d, AllE (cET d).1 ∧ AllT (cET d).2
  | 0 => ⟨fun _ _ _ _ _ _ => pe_bad, fun _ _ _ _ _ _ => pt_bad⟩
  | d + 1 => ⟨fun _ _ _ _ ok e => stepE_ok ok (cET_ok d).1 (cET_ok d).2 e, fun _ _ _ _ ok e => stepT_ok ok (cET_ok d).1 (cET_ok d).2 e⟩
theorem cE_ok : AllE cE := (cET_ok 40).1
theorem cT_ok : AllT cT := (cET_ok 40).2
end
end Pi

/-! Pi, part 16: statements, whole. -/
namespace Pi
open PySem PySem.Spec L2
structure CxS (X : Cx) (C : CC) (W : WX) (k : Nat) : Prop extends CxOk X C W k where
  pass : PassesOwn (model X.prog X.w) X.A X.env X.xe
  ex : ∀ c, C.ex c = true → Gl X c → (c == ("__debug__" : Str)) = false → ∃ a, X.mg c = some (.ref a) ∧ ∀ (m : Str) (j : Nat) (p p2 pos : Pos), PMk X (.Call (.Name c p) [.Constant (.str m) j p2] [] pos) (fun _ H Q => Q (.ref a) none H)
section
variable {X : Cx} {C : CC} {W : WX} {k : Nat} {rE : CEx} {rT : CTx} {K : PySem.W.Frag} {mg : MG} {σ : St} {H : Hp} {M : List Nat}
variable {a b c e tg elt : Expr} {es : List Expr} {pos p spos : Pos}
theorem cLT_ok (ok : CxOk X C W k) : ∀ {ts : List Expr} {ls : List LT}, cLT C ts = some ls → LTsOk X W C.mine ts ls ∧ ls.length = ts.length
  | [], ls, h => by rw [cLT] at h; cases h; exact ⟨.nil, rfl⟩
  | t :: ts, ls, h => by
    unfold cLT at h
    split at h
    · rename_i e; cases e
    · rename_i x q ts' e
      cases e
      obtain ⟨i, h1, h2⟩ := Option.bind_eq_some_iff.mp h
      split at h2
      · cases h2
      · rename_i hm
        obtain ⟨l2, h3, rfl⟩ := Option.map_eq_some_iff.mp h2
        obtain ⟨a1, a2, a3⟩ := ok.loc h1
        obtain ⟨b1, b2⟩ := cLT_ok ok h3
        exact ⟨.nm a1 a2 a3 (by simpa using hm) b1, congrArg Nat.succ b2⟩
    · rename_i x q kk q2 ts' e
      cases e
      obtain ⟨i, h1, h2⟩ := Option.bind_eq_some_iff.mp h
      obtain ⟨a1, a2, a3, a4⟩ := ok.var h1
      split at h2
      · cases h2
      · rename_i hns
        obtain ⟨l2, h3, rfl⟩ := Option.map_eq_some_iff.mp h2
        obtain ⟨b1, b2⟩ := cLT_ok ok h3
        refine ⟨.ix a1 a4 a2 a3 (cP_ok ok (cE_ok _ _ _ _ ok) _) ?_ b1, congrArg Nat.succ b2⟩
        cases kk <;> first | rfl | exact absurd rfl (hns _ _ _ _)
    · cases h
theorem sw_eq {ts vs : List Expr} {env : PySem.Env} {k1 k2 : Nat} {p1 p2 : Pos} : swappedStores [.Tuple ts k1 p1] (.Tuple vs k2 p2) env =
  (if (!(ts.length == 2 || ts.length == 3) || vs.length != ts.length || env.blockKind != .function) = true then pure none else
   if (vs.any fun | .Starred .. => true | _ => false) = true then pure none else
   if ((nmsX env.kindOf ts).length != ts.length || (nmsX env.kindOf ts).eraseDups.length != (nmsX env.kindOf ts).length) = true then pure none else
   if vs.all (foldedForSure 8) = true then pure none else
   if vs.all (constantsAlone 8) = true then unsupported "assign.tuple-of-constant-expressions:order-of-the-stores" else pure (some (nmsX env.kindOf ts))) := by
  unfold swappedStores
  rfl
theorem fm_congr {α β : Type} {f g : α → Option β} : ∀ {l : List α}, (∀ x ∈ l, f x = g x) → l.filterMap f = l.filterMap g
  | [], _ => rfl
  | x :: l, h => by
    rw [List.filterMap_cons, List.filterMap_cons, h x (by simp), fm_congr fun y hy => h y (by simp [hy])]
theorem nms_eq (ok : CxOk X C W k) {ts : List Expr} {ls : List LT} (h : cLT C ts = some ls) : nmsX X.env.kindOf ts = nmsX (fun x => C.sc.lookup x) ts := by
  have key : ∀ {us : List Expr} {ks : List LT}, cLT C us = some ks → ∀ t ∈ us, ∀ x q, t = .Name x q → (X.env.kindOf x == some .local) = (C.sc.lookup x == some .local) := by
    intro us
    induction us with
    | nil => intro ks _ t ht; simp at ht
    | cons u us ih =>
      intro ks h t ht x q e
      have hr : ∃ ks', cLT C us = some ks' := by
        unfold cLT at h
        split at h
        · rename_i e; cases e
        · rename_i e
          cases e
          obtain ⟨i, h1, h2⟩ := Option.bind_eq_some_iff.mp h
          split at h2
          · cases h2
          · obtain ⟨l2, h3, _⟩ := Option.map_eq_some_iff.mp h2
            exact ⟨l2, h3⟩
        · rename_i e
          cases e
          obtain ⟨i, h1, h2⟩ := Option.bind_eq_some_iff.mp h
          split at h2
          · cases h2
          · obtain ⟨l2, h3, _⟩ := Option.map_eq_some_iff.mp h2
            exact ⟨l2, h3⟩
        · cases h
      obtain ⟨ks', hr⟩ := hr
      rcases List.mem_cons.mp ht with z | z
      · subst z e
        rw [cLT] at h
        obtain ⟨i, h1, _⟩ := Option.bind_eq_some_iff.mp h
        unfold CC.loc at h1
        split at h1
        · rename_i hl
          have : X.env.kindOf x = some .local := ok.lo _ hl
          rw [this, hl]
        · rename_i hl
          have : X.env.kindOf x = some .cell := ok.ce _ hl
          rw [this, hl]
        · cases h1
      · exact ih hr t z x q e
  unfold nmsX
  refine fm_congr fun t ht => ?_
  cases t with
  | Name x q =>
    show (if (X.env.kindOf x == some .local && _) = true then _ else _) = (if (C.sc.lookup x == some .local && _) = true then _ else _)
    rw [key h _ ht x q rfl]
  | _ => rfl
/-- the row of names that the model stores from the right -/
theorem nms_full {kd : Str → Option NameKind} {ln : Nat} : ∀ {ts : List Expr}, (ts.filterMap fun
    | .Name id pos => if kd id == some .local && pos.line == ln then some id else none
    | _ => none).length = ts.length → ∀ t ∈ ts, ∃ x q, t = .Name x q ∧ kd x = some .local ∧ (q.line == ln) = true := by
  intro ts
  induction ts with
  | nil => intro _ t ht; simp at ht
  | cons t ts ih =>
    intro h u hu
    rw [List.filterMap_cons] at h
    have le := List.length_filterMap_le (fun
      | Expr.Name id pos => if kd id == some .local && pos.line == ln then some id else none
      | _ => none) ts
    split at h
    · simp only [List.length_cons] at h
      omega
    · rename_i y hy
      simp only [List.length_cons] at h
      have ih' := ih (by omega)
      rcases List.mem_cons.mp hu with z | z
      · subst z
        cases u with
        | Name x q =>
          simp only at hy
          split at hy
          · rename_i hc
            rw [Bool.and_eq_true] at hc
            exact ⟨x, q, rfl, eq_of_beq hc.1, hc.2⟩
          · cases hy
        | _ => cases hy
      · exact ih' u z
theorem ps_rowOk (ok : CxOk X C W k) {ts vs : List Expr} {ls : List LT} {k1 k2 : Nat} {p1 p2 : Pos} (hp : parB C ts vs = true) (hl : cLT C ts = some ls) : PS X (.Assign [.Tuple ts k1 p1] (.Tuple vs k2 p2) pos) (tS X.K X.mm W C.mine (sPar ls (vs.map (cE C)))) := by
  unfold parB at hp
  simp only [Bool.and_eq_true, decide_eq_true_eq, Bool.not_eq_true'] at hp
  obtain ⟨⟨⟨p1', p2'⟩, p3'⟩, p4'⟩ := hp
  obtain ⟨h1, h2⟩ := cLT_ok ok hl
  have hw := map_ok (cE_ok _ _ _ _ ok) p2'
  have genl : swappedStores [.Tuple ts k1 p1] (.Tuple vs k2 p2) X.env = pure none → PS X (.Assign [.Tuple ts k1 p1] (.Tuple vs k2 p2) pos) (tS X.K X.mm W C.mine (sPar ls (vs.map (cE C)))) := fun hs =>
    ps_rowA (by have := ok.room.un; omega) ok.calm ok.nd (by rw [List.length_map]; exact p3') (by rw [List.length_map, h2, p1']) h1 hw hs
  have e0 := sw_eq (ts := ts) (vs := vs) (env := X.env) (k1 := k1) (k2 := k2) (p1 := p1) (p2 := p2)
  rw [nms_eq ok hl] at e0
  split at e0
  · exact genl e0
  rename_i c1
  split at e0
  · exact genl e0
  split at e0
  · exact genl e0
  rename_i c3
  split at e0
  · exact genl e0
  rename_i c4
  split at e0
  · rename_i c5
    simp only [Bool.or_eq_true, not_or, Bool.not_eq_true] at c1 c3 c4
    rw [c3.1, c3.2] at p4'
    simp only [c4, c5, c1.1.1] at p4'
    simp at p4'
  · simp only [Bool.or_eq_true, not_or, Bool.not_eq_true] at c1 c3
    have hlen : (nmsX (fun x => C.sc.lookup x) ts).length = ts.length := by simpa using c3.1
    have hdup : (nmsX (fun x => C.sc.lookup x) ts).eraseDups.length = (nmsX (fun x => C.sc.lookup x) ts).length := by simpa using c3.2
    have hfull := nms_full (kd := fun x => C.sc.lookup x) (ts := ts) (ln := (ts.head?.map fun e : Expr => e.pos.line).getD 0) hlen
    have h23 : ts.length = 2 ∨ ts.length = 3 := by
      have := c1.1.1
      simp at this
      by_cases q : ts.length = 2
      · exact .inl q
      · exact .inr (this q)
    have ev : ∀ x q, Expr.Name x q ∈ ts → X.env.scope.names.lookup x = some .local := fun x q hm => by
      obtain ⟨y, q', e, hy, _⟩ := hfull _ hm
      cases e
      exact ok.lo _ hy
    have ix_ne : ∀ {i j : Nat} {x y : Str}, X.N[i]? = some x → X.N[j]? = some y → x ≠ y → i ≠ j := fun {i j x y} e1 e2 n q => by
      subst q; rw [e1] at e2; cases e2; exact n rfl
    rcases h23 with q | q
    · match ts, vs, q, p1', hl, h1, hw, e0, hdup, hfull, ev with
      | [t1, t2], [v1, v2], _, _, hl, h1, hw, e0, hdup, hfull, ev =>
        obtain ⟨x, px, rfl, kx, lx⟩ := hfull t1 (by simp)
        obtain ⟨y, py, rfl, ky, ly⟩ := hfull t2 (by simp)
        have en : nmsX (fun x => C.sc.lookup x) [Expr.Name x px, Expr.Name y py] = [x, y] := by
          unfold nmsX
          simp only [List.filterMap_cons, List.filterMap_nil, kx, ky, lx, ly]
          simp
        rw [en] at e0 hdup
        have hxy : x ≠ y := fun z => by
          subst z
          simp [List.eraseDups_cons] at hdup
        cases h1 with
        | nm a1 a2 a3 a4 t =>
          cases t with
          | nm b1 b2 b3 b4 t =>
            cases t
            exact ps_row2 ok.calm ok.nd a1 b1 (ix_ne a1 b1 hxy) (ev x px (by simp)) (ev y py (by simp)) a4 b4 hw e0
    · match ts, vs, q, p1', hl, h1, hw, e0, hdup, hfull, ev with
      | [t1, t2, t3], [v1, v2, v3], _, _, hl, h1, hw, e0, hdup, hfull, ev =>
        obtain ⟨x, px, rfl, kx, lx⟩ := hfull t1 (by simp)
        obtain ⟨y, py, rfl, ky, ly⟩ := hfull t2 (by simp)
        obtain ⟨z, pz, rfl, kz, lz⟩ := hfull t3 (by simp)
        have en : nmsX (fun x => C.sc.lookup x) [Expr.Name x px, Expr.Name y py, Expr.Name z pz] = [x, y, z] := by
          unfold nmsX
          simp only [List.filterMap_cons, List.filterMap_nil, kx, ky, kz, lx, ly, lz]
          simp
        rw [en] at e0 hdup
        have hxy : x ≠ y := fun w => by
          subst w
          simp only [List.eraseDups_cons, List.filter_cons] at hdup
          by_cases q : z = x
          · subst q; simp at hdup
          · have : (z != x) = true := by simp [q]
            simp [this, q, List.eraseDups_cons] at hdup
        have hxz : x ≠ z := fun w => by
          subst w
          simp only [List.eraseDups_cons, List.filter_cons] at hdup
          have : (y != x) = true := by simp [Ne.symm hxy]
          simp [this, Ne.symm hxy, List.eraseDups_cons] at hdup
        have hyz : y ≠ z := fun w => by
          subst w
          simp only [List.eraseDups_cons, List.filter_cons] at hdup
          have : (y != x) = true := by simp [Ne.symm hxy]
          simp [this, Ne.symm hxy, List.eraseDups_cons] at hdup
        cases h1 with
        | nm a1 a2 a3 a4 t =>
          cases t with
          | nm b1 b2 b3 b4 t =>
            cases t with
            | nm c1 c2 c3 c4 t =>
              cases t
              exact ps_row3 ok.calm ok.nd a1 b1 c1 (ix_ne a1 b1 hxy) (ix_ne a1 c1 hxz) (ix_ne b1 c1 hyz) (ev x px (by simp)) (ev y py (by simp)) (ev z pz (by simp)) a4 b4 c4 hw e0
abbrev AllS (rS : CC → List Stmt → S) : Prop := ∀ X C W k, CxS X C W k → ∀ b, PSs X b (tS X.K X.mm W C.mine (rS C b))
theorem sole_off {t : Expr} {l : Nat} {env : PySem.Env} (h : ∀ elt gs sc q, e ≠ .ListComp elt gs sc q) (hb : ∀ elt gs sc q, e ≠ .SetComp elt gs sc q) (hd : ∀ a b gs sc q, e ≠ .DictComp a b gs sc q) : swapsWithSole [t] e l env = pure false := by
  cases e <;> first | rfl | exact absurd rfl (h _ _ _ _) | exact absurd rfl (hb _ _ _ _) | exact absurd rfl (hd _ _ _ _ _)
theorem cE_comp {elt : Expr} {gs : List Comprehension} {sc : Scope} {q : Pos} : cE C (.ListComp elt gs sc q) = cComp (cET 39).1 (cET 39).2 C elt gs sc := rfl
theorem cE_setc {elt : Expr} {gs : List Comprehension} {sc : Scope} {q : Pos} : cE C (.SetComp elt gs sc q) = eBad := rfl
theorem cE_dicc {a b : Expr} {gs : List Comprehension} {sc : Scope} {q : Pos} : cE C (.DictComp a b gs sc q) = eBad := rfl
theorem ps_asgBad {st : Stmt} {g : Pi.TG} : PS X st (tS X.K X.mm W M (sAsg g eBad)) := ⟨fun _ _ _ _ _ _ h => by obtain ⟨_, _, _, z⟩ := h; exact z.elim⟩
theorem isStar_not (h : isStar e = true) : ∃ x q, e = .Starred x q := by
  cases e <;> first | exact ⟨_, _, rfl⟩ | simp [isStar] at h
/-- target = value -/
theorem ps_asgOk (ok : CxOk X C W k) {t : Expr} {g : Pi.TG} (hg : cTG C t = some g) (h : ∀ ts k1 p1 vs k2 p2, t = .Tuple ts k1 p1 → e ≠ .Tuple vs k2 p2) : PS X (.Assign [t] e pos) (tS X.K X.mm W C.mine (sAsg g (cE C e))) := by
  obtain ⟨tg, hM⟩ := cTG_is ok hg
  have hE := cE_ok _ _ _ _ ok
  by_cases hc : ∃ elt gs sc q, e = .ListComp elt gs sc q
  · obtain ⟨elt, gs, sc, q, rfl⟩ := hc
    cases tg with
    | nm a1 a2 a3 =>
      rw [cE_comp]
      exact ps_compA ok (cET_ok 39).1 (cET_ok 39).2 a1 a2 a3 hM
    | tp tt =>
      exact PS.imp (ps_asg (hE _) (pg_x ok.calm ok.nd (.tp tt)) rfl rfl (by rw [each_cons (.tp tt)]; rfl)) fun D σ H h => asg_reads hM h
  by_cases hs : ∃ elt gs sc q, e = .SetComp elt gs sc q
  · obtain ⟨elt, gs, sc, q, rfl⟩ := hs
    rw [cE_setc]
    exact ps_asgBad
  by_cases hd : ∃ a b gs sc q, e = .DictComp a b gs sc q
  · obtain ⟨a, b, gs, sc, q, rfl⟩ := hd
    rw [cE_dicc]
    exact ps_asgBad
  have hsw : swappedStores [t] e X.env = pure none := by
    cases tg with
    | nm a1 a2 a3 => rfl
    | tp tt => cases e <;> first | rfl | exact absurd rfl (h _ _ _ _ _ _ rfl)
  exact PS.imp (ps_asg (hE e) (pg_x ok.calm ok.nd tg) (sole_off (fun a b c d z => hc ⟨a, b, c, d, z⟩) (fun a b c d z => hs ⟨a, b, c, d, z⟩) fun a b c d f z => hd ⟨a, b, c, d, f, z⟩) hsw (by rw [each_cons tg]; rfl)) fun D σ H h => asg_reads hM h
theorem pe_append (ok : CxOk X C W k) {x : Str} {i : Nat} {p1 ap cp : Pos} (h1 : X.N[i]? = some x) (h2 : (x == ("__debug__" : Str)) = false) (h3 : (x == ("__classdict__" : Str)) = false) (h4 : Vis X.env.scope x) (hst : isStar e = false) (hl : (ap.endLine == cp.line) = true) :
    PE X (.Call (.Attribute (.Name x p1) "append" ap) [e] [] cp) (tBM X.K "list" rAppend (tVar i) (tOs X.K X.mm W [oE (cE C e)])) := by
  have hE := cE_ok _ _ _ _ ok
  refine pe_bm PySem.F.plainAttrs_list PySem.F.slot_list_append PySem.F.type_list_append mt_append (pe_var h1 h4 h2 h3) (pa_evs (.cons ⟨hst, hE e⟩ .nil)) rfl ?_ hl (starEach_cons hst) (any_star rfl)
  rw [starEach_cons hst]
  rfl
theorem stepS_ok {rS : CC → List Stmt → S} (ok : CxS X C W k) (HS : AllS rS) (st : Stmt) : PS X st (tS X.K X.mm W C.mine (stepS rS C st)) := by
  have ok' := ok.toCxOk
  have hE := cE_ok _ _ _ _ ok'
  have hT := cT_ok _ _ _ _ ok'
  have hS := HS _ _ _ _ ok
  unfold stepS
  split
  · split
    · split
      · split
        · exact ps_rowOk ok' (by assumption) (by assumption)
        · exact ps_badA
      · exact ps_badA
    · exact ps_badA
  · rename_i x p1 kk p2 ee pp
    split
    · exact ps_badA
    · rename_i hsl
      split
      · rename_i i hv
        obtain ⟨a1, a2, a3, a4⟩ := ok'.var hv
        have hw : swappedStores [.Subscript (.Name x p1) kk p2] ee X.env = pure none := rfl
        have hsw : swapsWithSole [.Subscript (.Name x p1) kk p2] ee pp.line X.env = pure false := by cases ee <;> rfl
        exact ps_stI (by have := ok'.room.un; omega) ok'.nd a1 a4 a2 a3 (cP_ok ok' hE _) (by simpa using hsl) (hE _) hsw hw
      · exact ps_badA
  · rename_i t ee pp h1 h2
    split
    · rename_i g hg
      exact ps_asgOk ok' hg fun ts k1 p1 vs k2 p2 e1 e2 => by first | exact h1 _ _ _ _ _ _ e1 e2 | exact h1 _ _ _ _ _ _ e2 e1 | exact h2 _ _ _ _ _ _ e1 e2 | exact h2 _ _ _ _ _ _ e2 e1
    · exact ps_badA
  · split
    · rename_i hc
      simp only [Bool.and_eq_true, Bool.not_eq_true'] at hc
      obtain ⟨⟨c1, c2⟩, c3⟩ := hc
      obtain rfl := eq_of_beq c1
      split
      · rename_i i hv
        obtain ⟨a1, a2, a3, a4⟩ := ok'.var hv
        exact PS.imp (ps_expr (pe_append ok' a1 a2 a3 a4 c2 c3) rfl) fun D σ H h => app_reads h
      · exact ps_badA
    · exact ps_badA
  · exact PS.imp (ps_expr (hE _) rfl) fun D σ H h => expr_reads h
  · exact PS.imp ps_doc fun D σ H h => nx_reads h
  · exact PS.imp (ps_if (hT _) (hS _) (hS _)) fun D σ H h => if_reads h
  · exact PS.imp (ps_while ok.pass (hT _) (hS _)) fun D σ H h => while_reads h
  · split
    · rename_i s g hs hg
      obtain ⟨a1, a2⟩ := cSrc_ok ok' hE hs
      obtain ⟨tg, hM⟩ := cTG_is ok' hg
      exact PS.imp (ps_for ok.pass ok'.calm a1 (pg_ok ok'.calm ok'.nd tg) (hS _) (a2 X.env)) fun D σ H h => for_reads hM h
    · exact ps_badA
  · split
    · rename_i i hv
      obtain ⟨a1, a2, a3, a4⟩ := ok'.var hv
      split
      · exact PS.imp (ps_ret (hE _)) fun D σ H h => ret_reads h
      · rename_i hm
        exact PS.imp (ps_ret (pe_var a1 a4 a2 a3)) fun D σ H h => retV_reads (by simpa using hm) h
    · exact PS.imp (ps_ret (hE _)) fun D σ H h => ret_reads h
  · exact PS.imp (ps_ret (hE _)) fun D σ H h => ret_reads h
  · exact PS.imp ps_retN fun D σ H h => retN_reads h
  · split
    · rename_i hc
      rw [Bool.and_eq_true] at hc
      obtain ⟨a, ha, hmk⟩ := ok.ex _ hc.2 (ok'.glob hc.1).1 (ok'.glob hc.1).2
      exact PS.imp (ps_raise ok'.calm ok'.tk (hmk _ _ _ _ _)) fun D σ H h => raise_reads ha h
    · exact ps_badA
  · exact PS.imp ps_pass fun D σ H h => nx_reads h
  · exact PS.imp ps_break fun D σ H h => brk_reads h
  · exact PS.imp ps_continue fun D σ H h => cnt_reads h
  · exact ps_badA
theorem cSs_ok : ∀ d, AllS (cSs d)
  | 0 => fun X C W k ok b => ⟨fun _ _ _ _ _ _ h => by obtain ⟨_, _, _, z⟩ := h; exact z.elim⟩
  | d + 1 => fun X C W k ok b => by
    match b with
    | [] => exact pss_nilA
    | [st] => exact pss_one (stepS_ok ok (cSs_ok d) st)
    | st :: s2 :: r => exact pss_consA (stepS_ok ok (cSs_ok d) st) (cSs_ok d _ _ _ _ ok _)
end
end Pi

/-! Pi, part 17: defs, and a law's table. -/
namespace Pi
open PySem PySem.Spec L2
structure DD where
  name : Str
  st : Stmt
  N : List Str
  io : List Nat
  np : Nat
/-- a law's table: its defs, its constants, its exception classes, the built-in names that it uses -/
structure Lw where
  dds : List DD
  consts : List (Str × PV)
  excs : List Str
  frees : List Str
  fuel : Nat
def Lw.find (L : Lw) (f : Str) : Option DD := L.dds.find? fun d => d.name == f
def Lw.G (L : Lw) (x : Str) : Option PV := match L.consts.lookup x with
  | some v => some v
  | none => (L.find x).map fun _ => .fn x
def Lw.cc (L : Lw) (d : DD) (Φ : Str → List XV → FOut) : CC :=
  { N := d.N, sc := (defScope d.st).names, G := L.G, bi := fun x => L.frees.contains x, io := fun f => ((L.find f).map (·.io)).getD [], ex := fun c => L.excs.contains c, mine := d.io, Φ := Φ, fuel := L.fuel }
def Lw.body (L : Lw) (d : DD) (Φ : Str → List XV → FOut) : S := cSs 60 (L.cc d Φ) (defBody d.st)
def Lw.dfr (L : Lw) (d : DD) (Φ : Str → List XV → FOut) : DefR := { np := d.np, nN := d.N.length, io := d.io, body := L.body d Φ }
def Lw.run (L : Lw) : Nat → Str → List XV → FOut
  | 0, _, _ => .bad
  | k + 1, f, xs => match L.find f with
    | some d => runBody (L.dfr d (L.run k)) xs
    | none => .bad
structure DOk (d : DD) : Prop where
  sc : FnScope d.N (d.N.take d.np) (defScope d.st)
  le : d.np ≤ d.N.length
  bd : ∀ (kV doc pm : Value) (an : Option Addr) (cdv ct : Value) (us : List Value), us.length = d.np → bindArgs (PySem.W.fnOf d.name d.name (defArgs d.st) (defBody d.st) (defScope d.st) .none kV doc pm an cdv ct) ⟨us, []⟩ = pure ((d.N.take d.np).zip us)
/-- what the module's namespace and its objects tell -/
structure MOk (K : PySem.W.Frag) (mg : MG) (L : Lw) : Prop where
  fn : ∀ d ∈ L.dds, ∃ f fd, mg d.name = some (.ref f) ∧ FunD K d.name d.name (defArgs d.st) (defBody d.st) (defScope d.st) [] [] f fd
  con : ∀ x v, (x, v) ∈ L.consts → (∀ g, v ≠ .fn g) ∧ ∃ (u : Value) (w : V), mg x = some u ∧ RelV w u ∧ ∀ N H, RepV K mg N H v w
  exc : ∀ c ∈ L.excs, ∃ a, mg c = some (.ref a) ∧ PySem.W.excIn K a He.veBase "ValueError.__new__" = true ∧ PySem.W.keepIn K (.ref a) = true ∧ PySem.W.subIn K (.ref a) (.type "BaseException") = some true ∧ PySem.W.typeIn K (.ref a) = some (.type "type")
  fre : ∀ x ∈ L.frees, mg x = none
section
variable {X : Cx} {K : PySem.W.Frag} {mg : MG} {N F : NA} {H H' : Hp} {ρ ρ' : Env} {σ σ' : St} {L : Lw} {P : Program} {w : World} {base : Heap}
theorem find_some {f : Str} {d : DD} (h : L.find f = some d) : d ∈ L.dds ∧ d.name = f := by
  unfold Lw.find at h
  exact ⟨List.mem_of_find?_eq_some h, eq_of_beq (List.find?_some (p := fun d : DD => d.name == f) h)⟩
/-- an env whose last slots are empty -/
theorem ext_get {xs : List XV} {n i : Nat} {x : XV} (h : (xs.map some ++ List.replicate n none)[i]? = some (some x)) : (xs.map some)[i]? = some (some x) := by
  by_cases e : i < (xs.map some).length
  · rw [List.getElem?_append_left e] at h; exact h
  · rw [List.getElem?_append_right (by omega), List.getElem?_replicate] at h
    split at h <;> cases h
theorem get_ext {α : Type} {xs : List (Option α)} {n i : Nat} {y : Option α} (h : xs[i]? = some y) : (xs ++ List.replicate n none)[i]? = some y := by
  have hl : i < xs.length := (List.getElem?_eq_some_iff.mp h).1
  rw [List.getElem?_append_left hl]; exact h
theorem own_ext {xs : List XV} {vs : List V} {n m : Nat} {a : Addr} {i : Nat} (hl : xs.length = vs.length) (h : OwnAt (xs.map some ++ List.replicate n none) (vs.map some ++ List.replicate m none) i a) : OwnAt (xs.map some) (vs.map some) i a := by
  obtain ⟨o, h1, h2⟩ := h
  have h1 := ext_get h1
  have hi : i < (vs.map some).length := by have := (List.getElem?_eq_some_iff.mp h1).1; simpa [hl] using this
  rw [List.getElem?_append_left hi] at h2
  exact ⟨o, h1, h2⟩
theorem re_ext {xs : List XV} {vs : List V} {n : Nat} (hl : xs.length = vs.length) (r : RE K mg F (xs.map some) (vs.map some) H) : RE K mg F (xs.map some ++ List.replicate n none) (vs.map some ++ List.replicate n none) H := by
  have w : ∀ z, NN F (xs.map some ++ List.replicate n none) (vs.map some ++ List.replicate n none) z → NN F (xs.map some) (vs.map some) z := fun z q => q.imp id fun ⟨i, q⟩ => ⟨i, own_ext hl q⟩
  refine ⟨by simp [hl], fun i v h => ?_, fun i o h => ?_, fun i j a h1 h2 => r.dist i j a (own_ext hl h1) (own_ext hl h2), fun a q ⟨i, t⟩ => r.apart a q ⟨i, own_ext hl t⟩, r.there⟩
  · obtain ⟨x, h1, h2⟩ := r.pv i v (ext_get h)
    exact ⟨x, get_ext h1, h2.weak w⟩
  · obtain ⟨x, h1, h2⟩ := r.own i o (ext_get h)
    exact ⟨x, get_ext h1, h2.weak w⟩
theorem owns_at {io : List Nat} : ∀ {xs : List XV} {k i : Nat} {o : PV}, ownsIn io k xs = true → xs[i]? = some (.own o) → k + i ∈ io
  | [], _, _, _, _, e => by simp at e
  | x :: xs, k, 0, o, h, e => by
    simp at e
    subst e
    simp only [ownsIn, Bool.and_eq_true] at h
    have := h.1
    simpa using this
  | x :: xs, k, i + 1, o, h, e => by
    simp only [ownsIn, Bool.and_eq_true] at h
    have := owns_at (i := i) h.2 (by simpa using e)
    have e2 : k + (i + 1) = k + 1 + i := by omega
    rw [e2]; exact this
theorem outs_get {np : Nat} {io : List Nat} {i : Nat} {x : XV} (h : (outsOf np io ρ)[i]? = some (some x)) : i < np ∧ i ∈ io ∧ ρ[i]? = some (some x) := by
  unfold outsOf at h
  rw [List.getElem?_map] at h
  obtain ⟨j, h1, h2⟩ := Option.map_eq_some_iff.mp h
  obtain ⟨h3, h4⟩ := List.getElem?_eq_some_iff.mp h1
  rw [List.length_range] at h3
  rw [List.getElem_range] at h4
  subst h4
  split at h2
  · rename_i hc
    refine ⟨h3, by simpa using hc, ?_⟩
    cases q : ρ[i]? with
    | none => rw [q] at h2; cases h2
    | some y => rw [q] at h2; exact congrArg some h2
  · cases h2
/-- fewer slots -/
theorem re_cut {outs : List (Option XV)} {τ : St} (hl : outs.length = τ.length) (h : ∀ (i : Nat) x, outs[i]? = some (some x) → ρ'[i]? = some (some x) ∧ τ[i]? = σ'[i]?) (r : RE K mg F ρ' σ' H') : RE K mg F outs τ H' ∧ ∀ z, Own outs τ z → Own ρ' σ' z := by
  have ow : ∀ i z, OwnAt outs τ i z → OwnAt ρ' σ' i z := fun i z ⟨o, h1, h2⟩ => ⟨o, (h i _ h1).1, by rw [← (h i _ h1).2]; exact h2⟩
  have w : ∀ z, NN F outs τ z → NN F ρ' σ' z := fun z q => q.imp id fun ⟨i, q⟩ => ⟨i, ow i z q⟩
  refine ⟨⟨hl, fun i v e => ?_, fun i o e => ?_, fun i j a h1 h2 => r.dist i j a (ow i a h1) (ow j a h2), fun a q ⟨i, t⟩ => r.apart a q ⟨i, ow i a t⟩, r.there⟩, fun z ⟨i, q⟩ => ⟨i, ow i z q⟩⟩
  · obtain ⟨x, h1, h2⟩ := r.pv i v (h i _ e).1
    exact ⟨x, by rw [(h i _ e).2]; exact h1, h2.weak w⟩
  · obtain ⟨x, h1, h2⟩ := r.own i o (h i _ e).1
    exact ⟨x, by rw [(h i _ e).2]; exact h1, h2.weak w⟩
/-- a def's body from its promise -/
theorem body_reads {d : DefR} {vs : List V} {Q : VK} {E : XK} {NN' : List Str} (hN : NN'.length = d.nN) (hle : d.np ≤ d.nN) (h : spOf K mg d.np (runBody d) vs H Q E) :
    tS K mg (fun cls dd _ H => E cls dd H) d.io d.body { nx := fun _ H' => Q .non H', rt := Q } (L2.start NN' vs) H := by
  obtain ⟨hv, F, xs, re, h⟩ := h
  have hxl : xs.length = vs.length := by have := re.len; simpa using this
  have e0 : L2.start NN' vs = vs.map some ++ List.replicate (d.nN - d.np) none := by
    unfold L2.start
    rw [hN, hv]
  rw [e0]
  have reX := re_ext (n := d.nN - d.np) hxl re
  refine ⟨F, _, reX, ?_⟩
  unfold runBody at h
  by_cases hc : xs.length = d.np ∧ ownsIn d.io 0 xs = true
  · rw [if_pos hc] at h
    have frArgs : ∀ {H'}, Fr (xs.map some ++ List.replicate (d.nN - d.np) none) (vs.map some ++ List.replicate (d.nN - d.np) none) H H' → Fr (xs.map some) (vs.map some) H H' := fun {H'} f => ⟨fun a o e n q => f.keep a o e n fun ⟨i, t⟩ => q ⟨i, own_ext hxl t⟩, f.up⟩
    have outsK : ∀ {ρ' : Env} {σ' : St} {H'}, Stp d.io (xs.map some ++ List.replicate (d.nN - d.np) none) (vs.map some ++ List.replicate (d.nN - d.np) none) H ρ' σ' H' →
        LeO (outsOf d.np d.io ρ') (xs.map some) ∧ (outsOf d.np d.io ρ').length = (vs.map some).length ∧ ∀ (i : Nat) x, (outsOf d.np d.io ρ')[i]? = some (some x) → ρ'[i]? = some (some x) ∧ (vs.map some)[i]? = σ'[i]? := fun {ρ' σ' H'} st => by
      refine ⟨fun i o e => ?_, by simp [outsOf, hv], fun i x e => ?_⟩
      · obtain ⟨h1, h2, h3⟩ := outs_get e
        obtain ⟨o', h4⟩ := (st.kp i h2).2 o h3
        exact ⟨o', ext_get h4⟩
      · obtain ⟨h1, h2, h3⟩ := outs_get e
        refine ⟨h3, ?_⟩
        rw [(st.kp i h2).1, List.getElem?_append_left (by simp [hv]; omega)]
    cases q : d.body (xs.map some ++ List.replicate (d.nN - d.np) none) with
    | bad => rw [q] at h; exact h.elim
    | exc c fs ρ' =>
      rw [q] at h
      exact fun σ' H' cls dd st r x => h H' cls dd (frArgs st.fr) x
    | ok f ρ' =>
      rw [q] at h
      cases f with
      | brk => exact h.elim
      | cnt => exact h.elim
      | nx =>
        intro σ' H' st r
        obtain ⟨k1, k2, k3⟩ := outsK st
        obtain ⟨r1, r2⟩ := re_cut k2 k3 r
        exact h H' .non (frArgs st.fr) k1 ⟨.non, r1⟩
      | ret x =>
        intro σ' H' v st r
        obtain ⟨k1, k2, k3⟩ := outsK st
        refine h H' v (frArgs st.fr) k1 ?_
        cases x with
        | pv p =>
          obtain ⟨r1, r2⟩ := re_cut k2 k3 r.2
          exact ⟨r.1.weak fun z y => y.imp id (r2 z), r1⟩
        | own o =>
          obtain ⟨a, e1, h0, n1, n2, r3, r4⟩ := r
          obtain ⟨r1, r2⟩ := re_cut k2 k3 r4
          refine ⟨a, e1, ?_, n1, fun y => n2 (r2 a y), r3.weak fun z y => y.imp id (r2 z), r1⟩
          rcases h0 with ⟨i, hi, y⟩ | h0
          · obtain ⟨o', y1, _⟩ := own_ext hxl y
            have := owns_at hc.2 (map_some.mp y1)
            rw [Nat.zero_add] at this
            exact absurd this hi
          · exact h0
  · rw [if_neg hc] at h
    exact h.elim
theorem run_len {k : Nat} {f : Str} {d : DD} (h : L.find f = some d) (xs : List XV) (hn : xs.length ≠ d.np) : L.run k f xs = .bad := by
  cases k with
  | zero => rfl
  | succ k =>
    rw [Lw.run, h]
    show runBody _ _ = _
    unfold runBody
    rw [if_neg]
    exact fun z => hn z.1
/-- EVERY def of the table does what the interpreter says -/
theorem all_ok (DO : ∀ d ∈ L.dds, DOk d) (MO : MOk K mg L) : ∀ (k : Nat) (f : Str) (d : DD), L.find f = some d → ∀ fa fd, FunD K d.name d.name (defArgs d.st) (defBody d.st) (defScope d.st) [] [] fa fd →
    FnOk P mg.w K mg base (L2.CX P mg.w) k fa fd (d.N.take d.np) (spOf K mg d.np (L.run k f))
  | 0, f, d, hf, fa, fd, F => by
    refine ⟨fun vs H Q E h => ?_, fun A outer s H args us vs Q E _ _ _ _ h => ?_⟩
    · obtain ⟨_, _, _, _, z⟩ := h; exact z.elim
    · obtain ⟨_, _, _, _, z⟩ := h; exact z.elim
  | k + 1, f, d, hf, fa, fd, F => by
    obtain ⟨hd, hn⟩ := find_some hf
    have DOd := DO d hd
    have hrun : L.run (k + 1) f = runBody (L.dfr d (L.run k)) := by
      funext xs
      rw [Lw.run, hf]
    rw [hrun]
    refine F.ok DOd.sc (fun vs H Q E h => ?_) (fun cdv A outer s H vs Q E hr h => ⟨tS K mg (fun cls dd _ H => E cls dd H) d.io (L.body d (L.run k)), ?_, body_reads (d := L.dfr d (L.run k)) rfl DOd.le h⟩)
    · rw [h.1, List.length_take]
      have := DOd.le
      omega
    · have ok : CxS (cxOf (L2.CX P mg.w) P mg.w K mg base d.N d.name (defScope d.st) fa cdv A outer s H E) (L.cc d (L.run k)) (fun cls dd _ H => E cls dd H) k := {
        calm := rfl
        nd := DOd.sc.nd
        names := rfl
        kind := DOd.sc.kind
        lo := fun _ h => h
        ce := fun _ h => h
        fr := fun _ h => .inr h
        gl := fun _ h => h
        fn := fun _ _ => rfl
        tk := takes_of rfl rfl rfl rfl
        room := hr
        val := fun x v hv => by
          have hv : L.G x = some v := hv
          unfold Lw.G at hv
          split at hv
          · rename_i y hy
            cases hv
            exact (MO.con x _ (PySem.mem_of_lookup hy)).2
          · obtain ⟨d', h1, rfl⟩ := Option.map_eq_some_iff.mp hv
            obtain ⟨hd', hn'⟩ := find_some h1
            obtain ⟨f', fd', h2, _⟩ := MO.fn d' hd'
            rw [hn'] at h2
            exact ⟨_, .ref f', h2, rfl, fun N H => .fn h2⟩
        dfs := fun x g hG => by
          have hG : L.G x = some (.fn g) := hG
          unfold Lw.G at hG
          split at hG
          · rename_i y hy
            cases hG
            exact absurd rfl ((MO.con x _ (PySem.mem_of_lookup hy)).1 g)
          · obtain ⟨d', h1, h2⟩ := Option.map_eq_some_iff.mp hG
            cases h2
            obtain ⟨hd', hn'⟩ := find_some h1
            obtain ⟨f', fd', h3, F'⟩ := MO.fn d' hd'
            have DOd' := DO d' hd'
            refine ⟨f', fd', _, d'.np, by rw [← hn']; exact h3, all_ok DO MO k x d' h1 f' fd' F', run_len h1, F'.kp, F'.bindsN fun kV doc pm an cdv ct us hl => DOd'.bd kV doc pm an cdv ct us ?_⟩
            rw [hl, List.length_take]
            have := DOd'.le
            omega
        bi := fun x hx => MO.fre x (by simpa [Lw.cc] using hx)
        pass := passes_of rfl
        ex := fun c hc hg hdb => by
          obtain ⟨a, h1, h2, h3, h4, h5⟩ := MO.exc c (by simpa [Lw.cc] using hc)
          exact ⟨a, h1, fun m j p p2 pos => pmk_own PySem.F.excBase_ValueError h2 h1 h3 (raises_own h4 h5) hg hdb⟩ }
      exact cSs_ok 60 _ _ _ _ ok _
end
end Pi

/-! Pi, part 18: what the module's text leaves behind; the law's call. -/
namespace Pi
open PySem PySem.Spec L2 He
/-- a value of the module's namespace is p -/
def all2 {α β : Type} (f : α → β → Bool) : List α → List β → Bool
  | [], [] => true
  | x :: xs, y :: ys => f x y && all2 f xs ys
  | _, _ => false
def repB (K : PySem.W.Frag) : Nat → PV → Value → Bool
  | 0, _, _ => false
  | n + 1, p, u => match p, u with
    | .non, .none => true
    | .bl b, .bool c => b == c
    | .int i, .int j _ => decide (i = j)
    | .str x, .str y _ => decide (x = y)
    | .tup xs, .ref a => (match K.lookup a with
      | some ⟨.type c, _, .seq its _, _⟩ => decide (c = "tuple") && (decide (its.size ≤ sizeLine) && all2 (repB K n) xs its.toList)
      | _ => false)
    | _, _ => false
theorem all2_rep {K : PySem.W.Frag} {f : PV → Value → Bool} (hf : ∀ p u, f p u = true → ∃ v, RelV v u ∧ ∀ mg N H, RepV K mg N H p v) : ∀ {xs : List PV} {us : List Value}, all2 f xs us = true → ∃ vs, Vals vs us ∧ ∀ mg N H, RepVs K mg N H xs vs
  | [], [], _ => ⟨[], .nil, fun _ _ _ => .nil⟩
  | x :: xs, u :: us, h => by
    rw [all2, Bool.and_eq_true] at h
    obtain ⟨v, r1, r2⟩ := hf x u h.1
    obtain ⟨vs, r3, r4⟩ := all2_rep hf h.2
    exact ⟨v :: vs, .cons r1 r3, fun mg N H => .cons (r2 mg N H) (r4 mg N H)⟩
theorem repB_ok {K : PySem.W.Frag} : ∀ {n : Nat} (p : PV) (u : Value), repB K n p u = true → ∃ v, RelV v u ∧ ∀ mg N H, RepV K mg N H p v
  | 0, p, u, h => by simp [repB] at h
  | n + 1, p, u, h => by
    unfold repB at h
    split at h
    · exact ⟨.non, rfl, fun _ _ _ => .non⟩
    · obtain rfl := eq_of_beq h
      exact ⟨.bl _, rfl, fun _ _ _ => .bl _⟩
    · obtain rfl := of_decide_eq_true h
      exact ⟨.int _, ⟨_, rfl⟩, fun _ _ _ => .int _⟩
    · obtain rfl := of_decide_eq_true h
      exact ⟨.str _, ⟨_, rfl⟩, fun _ _ _ => .str _⟩
    · rename_i xs a
      split at h
      · rename_i c dd its nn sl q
        rw [Bool.and_eq_true, Bool.and_eq_true] at h
        obtain ⟨h1, h2, h3⟩ := h
        obtain ⟨vs, r1, r2⟩ := all2_rep (fun p u => repB_ok (n := n) p u) h3
        exact ⟨.ref a, rfl, fun mg N H => .tup (.inr ⟨_, its, nn, q, congrArg Value.type (of_decide_eq_true h1), rfl, of_decide_eq_true h2, r1⟩) (r2 mg N H)⟩
      · cases h
    · cases h
def noFn : PV → Bool
  | .fn _ => false
  | _ => true
def conP (K : PySem.W.Frag) (c : Str × PV) : Bool := noFn c.2 && (match PySem.W.nsIn K mainGlobals c.1 with
  | some (some u) => repB K 20 c.2 u
  | _ => false)
abbrev AlP : Type := AlD × Bool
def obsP (n : Nat) (fa : List Fa) (fn : List DefD) (cs : List (Str × PV)) (g : Addr → Option Obj) : AlP := (obsD fa fn (frG g (asD g n)), cs.all (conP (frG g (asD g n))))
def SaysP (fa : List Fa) (fn : List DefD) (cs : List (Str × PV)) (K : PySem.W.Frag) : Prop := SaysD fa fn K ∧ cs.all (conP K) = true
def hookP (n : Nat) (fa : List Fa) (fn : List DefD) (cs : List (Str × PV)) : PySem.W.Hook where
  α := AlP
  obs := fun s => obsP n fa fn cs s.heap.get?
  val := fun _ => (valD fn, true)
  says := fun _ h => ∃ K : PySem.W.Frag, K.In h ∧ SaysP fa fn cs K
  of := fun _ _ e => ⟨_, frG_in, congrArg Prod.fst e, congrArg Prod.snd e⟩
  keeps := fun _ _ _ ⟨K, hK, c⟩ k => ⟨K, PySem.W.Frag.In.keeps hK k, c⟩
theorem obsP_eq {n : Nat} {fa : List Fa} {fn : List DefD} {cs : List (Str × PV)} {g : Addr → Option Obj} {s : Shared} (h : ∀ a, g a = s.heap.get? a) : obsP n fa fn cs g = (hookP n fa fn cs).obs s := by
  have e : g = s.heap.get? := funext h
  rw [e] <;> rfl
def DD.defD (d : DD) : DefD := ⟨(d.name, none), d.name, d.name, defArgs d.st, defBody d.st, defScope d.st, [], []⟩
def Lw.fn (L : Lw) : List DefD := L.dds.map DD.defD
def Lw.fa (L : Lw) : List Fa := L.dds.map (fun d => Fa.glo d.name) ++ (L.excs.map Fa.glo ++ (L.excs.map Fa.exc ++ L.frees.map Fa.free))
theorem mok_of {K : PySem.W.Frag} {mg : MG} {L : Lw} {h : Heap} (KX : K.In h) (G : h.Ns mainGlobals mg) (c : SaysP L.fa L.fn L.consts K) : MOk K mg L := by
  obtain ⟨c1, c2⟩ := c
  have fact : ∀ f ∈ L.fa, f.ok K = true := fun f hf => by
    obtain ⟨i, hi⟩ := List.mem_iff_getElem?.mp hf
    exact c1.fact i hi
  refine ⟨fun d hd => ?_, fun x v hx => ?_, fun x hx => ?_, fun x hx => ?_⟩
  · have h1 := glo_ok KX G (x := d.name) (fact (.glo d.name) (List.mem_append_left _ (List.mem_map_of_mem hd)))
    have hm : d.defD ∈ L.fn := List.mem_map_of_mem hd
    obtain ⟨i, hi⟩ := List.mem_iff_getElem?.mp hm
    obtain ⟨fd, F⟩ := c1.def_ i hi
    exact ⟨_, fd, h1, F⟩
  · have q := List.all_eq_true.mp c2 _ hx
    unfold conP at q
    rw [Bool.and_eq_true] at q
    obtain ⟨q1, q2⟩ := q
    refine ⟨fun g e => ?_, ?_⟩
    · simp only at q1
      rw [e] at q1
      cases q1
    · split at q2
      · rename_i u hu
        obtain ⟨w, r1, r2⟩ := repB_ok _ _ q2
        exact ⟨u, w, PySem.W.mg_of KX G hu, r1, fun N H => r2 mg N H⟩
      · cases q2
  · have h1 := glo_ok KX G (x := x) (fact (.glo x) (List.mem_append_right _ (List.mem_append_left _ (List.mem_map_of_mem hx))))
    obtain ⟨e1, e2, e3, e4⟩ := exc_ok (fact (.exc x) (List.mem_append_right _ (List.mem_append_right _ (List.mem_append_left _ (List.mem_map_of_mem hx)))))
    exact ⟨_, h1, e1, e2, e3, e4⟩
  · exact free_ok KX G (fact (.free x) (List.mem_append_right _ (List.mem_append_right _ (List.mem_append_right _ (List.mem_map_of_mem hx)))))
/-- the law's call, from the interpreter's answer -/
theorem walk_pi {l : PySem.W.OpenLaw} {n k : Nat} {q : Program} {loose : List Str} {XP : (Str → Option Value) → Heap → Prop} {YP : World → Heap → Prop} {d : DefRec} {L : Lw} {dl : DD} {x : Str}
    (hn : l.most = some n) (hn2 : n ≤ sizeLine) (hdf : d.params.defaults = []) (hr : Room k callerA) (hname : d.name = dl.name) (DO : ∀ d ∈ L.dds, DOk d) (hl : L.find dl.name = some dl) (hps : dl.N.take dl.np = [x]) (hnp : dl.np = 1)
    (hY : ∀ w h, YP w h → ∃ K : PySem.W.Frag, K.In h ∧ SaysP L.fa L.fn L.consts K)
    (hrun : ∀ ns : List Int, ns.length ≤ n → ∃ outs, L.run k dl.name [.pv (.scr ns)] = .ok (.pv (.bl true)) outs) :
    PySem.W.WalkO q loose XP YP l.row.toRowW d [] (fun f vs => PySem.call f vs) := by
  refine L2.walk_ofE (k := k) (x := x) (CX := fun outer H s E u s' => ∃ P w, L2.CX P w outer H s E u s') hn hn2 hdf hr ?_ ?_
  · intro w mg fa h Y G hmg
    obtain ⟨K, KX, c⟩ := hY w h Y
    have MO := mok_of (mg := ⟨mg, w⟩) KX G c
    obtain ⟨hd, _⟩ := find_some hl
    obtain ⟨f, fd, h1, F⟩ := MO.fn dl hd
    have h1' : mg dl.name = some (.ref f) := h1
    rw [hname, h1'] at hmg
    cases hmg
    refine ⟨K, fd, spOf K ⟨mg, w⟩ dl.np (L.run k dl.name), KX, fun s u => ?_, fun H a ns hlen hO hS => ?_, fun base _ _ => ?_⟩
    · have b := F.bindsA (ps := dl.N.take dl.np) (fun kV doc pm an cdv ct us hl => (DO dl hd).bd kV doc pm an cdv ct us (by rw [hl, hps, hnp]; rfl)) s [u] (by rw [hps]; rfl)
      rw [hps] at b
      exact b
    · refine ⟨by rw [hnp]; rfl, fun _ => False, [.pv (.scr ns)], ?_, ?_⟩
      · have hs : Scr K H a ns := by
          rcases hS with (h | ⟨o, h⟩) | h
          · rcases hO a with z | ⟨o, xs, z⟩
            · rw [h] at z; cases z
            · rw [h] at z; cases z
          · exact .inl ⟨o, h⟩
          · exact .inr (.inr h)
        refine ⟨rfl, fun i v e => ?_, fun i o e => ?_, fun i j z h1 _ => ?_, fun z q => q.elim, fun z q => q.elim⟩
        · cases i with
          | zero => simp at e; subst e; exact ⟨.ref a, rfl, .scr hs⟩
          | succ i => simp at e
        · cases i with
          | zero => simp at e
          | succ i => simp at e
        · obtain ⟨o, e, _⟩ := h1
          cases i with
          | zero => simp at e
          | succ i => simp at e
      · obtain ⟨outs, e⟩ := hrun ns hlen
        rw [e]
        intro H' v _ _ r
        obtain ⟨r, _⟩ := r
        cases r with
        | obj _ _ sh _ => cases sh
        | _ => rfl
    · have := all_ok (P := l.prog) (mg := ⟨mg, w⟩) (base := base) DO MO k dl.name dl hl _ fd F
      rw [hps] at this
      refine ⟨this.len, fun A outer s H args us vs Q E hr he hb hv hs => ?_⟩
      refine codeAny_mono (this.run A outer s H args us vs Q E hr he hb hv hs) fun r s' hq => ?_
      cases r with
      | error e => exact ⟨_, _, hq⟩
      | ok fl => cases fl <;> exact hq
  · rintro H s e s' ⟨P, w, h⟩
    obtain ⟨_, _, _, _, _, _, _, _, _, _, _, _, z⟩ := h
    exact z
end Pi

/-! Pi, part 19: what the interpreter answers, general. -/
namespace Pi
open PySem PySem.Spec
theorem atI_nat {xs : List PV} {i : Nat} {x : PV} (h : xs[i]? = some x) : Pi.atI xs (i : Nat) = some x := by
  obtain ⟨h1, h2⟩ := List.getElem?_eq_some_iff.mp h
  unfold Pi.atI Pi.ixN
  rw [if_pos (by omega), if_pos (by omega)]
  simp [h1, h2]
theorem atI_zero {x : PV} {xs : List PV} : Pi.atI (x :: xs) 0 = some x := atI_nat (i := 0) rfl
theorem eqV_int (i j : Int) : eqV (.int i) (.int j) = some (i == j) := by
  have h : ∀ i : Int, pl 20 (.int i) = true := fun i => by rw [pl]
  have h2 : eqv (.int i) (.int j) = (i == j) := by rw [eqv]
  show (if (pl 20 (.int i) && pl 20 (.int j)) = true then some (eqv (.int i) (.int j)) else none) = _
  rw [h, h, h2]
  rfl
theorem allBls_map {α : Type} (g : α → Bool) : ∀ xs : List α, allBls (xs.map fun x => PV.bl (g x)) = some (xs.map g)
  | [] => rfl
  | x :: xs => by simp [allBls_map g xs]
theorem allInts_map : ∀ xs : List Int, allInts (xs.map PV.int) = some xs
  | [] => rfl
  | x :: xs => by simp [allInts_map xs]
theorem lcL_cons {vs : List Nat} {t : TG} {tst : T} {e : E} {x : PV} {xs : List PV} {ρ ρ1 ρ2 ρ3 ρ4 : Env} {y : XV} {ys : List PV} (h1 : bT t (.pv x) ρ = .ok () ρ1) (h2 : tst ρ1 = .ok true ρ2) (h3 : e ρ2 = .ok y ρ3) (h4 : lcL vs t tst e xs (wipe vs ρ3) = .ok ys ρ4) :
    lcL vs t tst e (x :: xs) ρ = .ok (y.val :: ys) ρ4 := by
  simp only [lcL, h1, h2, h3, h4, Out.bd, if_true]
theorem lcL_skip {vs : List Nat} {t : TG} {tst : T} {e : E} {x : PV} {xs : List PV} {ρ ρ1 ρ2 ρ4 : Env} {ys : List PV} (h1 : bT t (.pv x) ρ = .ok () ρ1) (h2 : tst ρ1 = .ok false ρ2) (h4 : lcL vs t tst e xs (wipe vs ρ2) = .ok ys ρ4) :
    lcL vs t tst e (x :: xs) ρ = .ok ys ρ4 := by
  simp only [lcL, h1, h2, h4, Out.bd, if_false, Bool.false_eq_true]
/-- a comprehension that leaves its env as it is -/
theorem lcL_pure {vs : List Nat} {t : TG} {e : E} {ρ : Env} {f : PV → PV} : ∀ {xs : List PV}, (∀ x ∈ xs, ∃ ρ1 ρ3 y, bT t (.pv x) ρ = .ok () ρ1 ∧ e ρ1 = .ok y ρ3 ∧ y.val = f x ∧ wipe vs ρ3 = ρ) → lcL vs t tYes e xs ρ = .ok (xs.map f) ρ
  | [], _ => rfl
  | x :: xs, h => by
    obtain ⟨ρ1, ρ3, y, h1, h2, h3, h4⟩ := h x (by simp)
    have ih := lcL_pure (xs := xs) fun z hz => h z (by simp [hz])
    have := lcL_cons (tst := tYes) h1 rfl h2 (by rw [h4]; exact ih)
    rw [this, h3]
    rfl
/-- a comprehension with an invariant of the env and a relation of its items -/
theorem lcL_inv {vs : List Nat} {t : TG} {e : E} {P : Env → Prop} {R : PV → PV → Prop} : ∀ {xs : List PV} {ρ : Env}, P ρ → (∀ x ∈ xs, ∀ ρ, P ρ → ∃ ρ1 ρ3 y, bT t (.pv x) ρ = .ok () ρ1 ∧ e ρ1 = .ok y ρ3 ∧ P (wipe vs ρ3) ∧ R x y.val) →
    ∃ ys ρ', lcL vs t tYes e xs ρ = .ok ys ρ' ∧ P ρ' ∧ Paired R xs ys
  | [], ρ, h, _ => ⟨[], ρ, rfl, h, .nil⟩
  | x :: xs, ρ, h, st => by
    obtain ⟨ρ1, ρ3, y, h1, h2, h3, h4⟩ := st x (by simp) ρ h
    obtain ⟨ys, ρ', h5, h6, h7⟩ := lcL_inv (xs := xs) h3 fun z hz => st z (List.mem_cons_of_mem _ hz)
    exact ⟨_, ρ', lcL_cons (tst := tYes) h1 rfl h2 h5, h6, .cons h4 h7⟩
/-- a filter that leaves its env as it is -/
theorem lcL_filter {vs : List Nat} {t : TG} {tst : T} {e : E} {ρ : Env} {f : PV → PV} {p : PV → Bool} : ∀ {xs : List PV}, (∀ x ∈ xs, ∃ ρ1 ρ3 y, bT t (.pv x) ρ = .ok () ρ1 ∧ tst ρ1 = .ok (p x) ρ1 ∧ wipe vs ρ1 = ρ ∧ (p x = true → e ρ1 = .ok y ρ3 ∧ y.val = f x ∧ wipe vs ρ3 = ρ)) →
    lcL vs t tst e xs ρ = .ok ((xs.filter p).map f) ρ
  | [], _ => rfl
  | x :: xs, h => by
    obtain ⟨ρ1, ρ3, y, h1, h2, h3, h4⟩ := h x (by simp)
    have ih := lcL_filter (xs := xs) fun z hz => h z (by simp [hz])
    cases hp : p x with
    | true =>
      obtain ⟨h5, h6, h7⟩ := h4 hp
      rw [hp] at h2
      have := lcL_cons h1 h2 h5 (by rw [h7]; exact ih)
      rw [this, h6, List.filter_cons, if_pos hp]
      rfl
    | false =>
      rw [hp] at h2
      have := lcL_skip (e := e) h1 h2 (by rw [h3]; exact ih)
      rw [this, List.filter_cons, if_neg (by simp [hp])]
theorem forL_nx {t : TG} {b : S} {x : PV} {xs : List PV} {ρ ρ1 ρ2 : Env} (h1 : bT t (.pv x) ρ = .ok () ρ1) (h2 : b ρ1 = .ok .nx ρ2) : forL t b (x :: xs) ρ = forL t b xs ρ2 := by
  simp only [forL, h1, h2, Out.bd]
theorem sSeq_nx {a b : S} {ρ ρ1 : Env} (h : a ρ = .ok .nx ρ1) : sSeq a b ρ = b ρ1 := by simp only [sSeq, h, Out.bd]
theorem runBody_ret {np nN : Nat} {io : List Nat} {body : S} {xs : List XV} {x : XV} {ρ0 ρ' : Env} {outs : List (Option XV)} (h1 : xs.length = np) (h2 : ownsIn io 0 xs = true) (h0 : xs.map some ++ List.replicate (nN - np) none = ρ0) (h3 : body ρ0 = .ok (.ret x) ρ') (h4 : outsOf np io ρ' = outs) :
    runBody { np := np, nN := nN, io := io, body := body } xs = .ok x outs := by
  unfold runBody
  rw [if_pos ⟨h1, h2⟩]
  simp only [h0, h3, h4]
theorem rgL_zero (n : Nat) : rgL 0 n = (List.range n).map fun i => .int (i : Nat) := by
  unfold rgL
  simp
theorem paired_map {α β : Type} {f : α → PV} {Q : α → Prop} : ∀ {xs : List β} {ys : List PV}, Paired (fun _ y => ∃ v, y = f v ∧ Q v) xs ys → ∃ vs : List α, ys = vs.map f ∧ vs.length = xs.length ∧ ∀ v ∈ vs, Q v
  | _, _, .nil => ⟨[], rfl, rfl, by simp⟩
  | _, _, .cons h t => by
    obtain ⟨v, rfl, q⟩ := h
    obtain ⟨vs, rfl, h1, h2⟩ := paired_map t
    exact ⟨v :: vs, rfl, by simp [h1], fun w hw => by rcases List.mem_cons.mp hw with rfl | hw; exact q; exact h2 w hw⟩
def nice : Nat → PV → Bool
  | _, .int _ => true
  | _, .bl _ => true
  | _, .non => true
  | n + 1, .tup xs => decide (xs.length ≤ 1000) && xs.all (nice n)
  | _, _ => false
theorem allV_true {ys : List PV} (h : ∀ y ∈ ys, y = .bl true) : allV (.lst ys) = some (.pv (.bl true)) := by
  have : ∀ ys : List PV, (∀ y ∈ ys, y = .bl true) → ∃ bs, allBls ys = some bs ∧ bs.all id = true := fun ys => by
    induction ys with
    | nil => exact fun _ => ⟨[], rfl, rfl⟩
    | cons y ys ih =>
      intro h
      obtain ⟨bs, h1, h2⟩ := ih fun z hz => h z (List.mem_cons_of_mem _ hz)
      rw [h y (by simp)]
      exact ⟨true :: bs, by simp [h1], by simpa using h2⟩
  obtain ⟨bs, h1, h2⟩ := this ys h
  simp [h1]
  simpa using h2
theorem lcL2_pure {vs vs1 : List Nat} {t t1 : TG} {s1 : Src} {tst1 : T} {e : E} {ρ : Env} {f : PV → List PV} : ∀ {xs : List PV}, (∀ x ∈ xs, ∃ ρ1 ρ3 zs ρ4, bT t (.pv x) ρ = .ok () ρ1 ∧ s1 ρ1 = .ok zs ρ3 ∧ lcL vs1 t1 tst1 e zs (wipe vs1 ρ3) = .ok (f x) ρ4 ∧ wipe vs ρ4 = ρ) →
    lcL2 vs vs1 t tYes s1 t1 tst1 e xs ρ = .ok (xs.flatMap f) ρ
  | [], _ => rfl
  | x :: xs, h => by
    obtain ⟨ρ1, ρ3, zs, ρ4, h1, h2, h3, h4⟩ := h x (by simp)
    have ih := lcL2_pure (xs := xs) fun z hz => h z (List.mem_cons_of_mem _ hz)
    simp only [lcL2, h1, h2, h3, h4, ih, Out.bd, tYes, if_true, List.flatMap_cons]
end Pi

/-! Pi, part 20: comprehensions and loops by one step. -/
namespace Pi
open PySem PySem.Spec
theorem back_get : ∀ {vs : List Nat} {ρ0 ρ : Env} (j : Nat), (back vs ρ0 ρ)[j]? = if j ∈ vs then (ρ[j]?).map fun _ => ρ0[j]?.getD none else ρ[j]?
  | [], _, _, j => by simp
  | v :: vs, ρ0, ρ, j => by
    rw [back]
    by_cases e : j = v
    · subst e
      rw [if_pos (by simp)]
      have hl : (back vs ρ0 ρ).length = ρ.length := by
        have : ∀ vs : List Nat, (back vs ρ0 ρ).length = ρ.length := fun vs => by
          induction vs with
          | nil => rfl
          | cons v vs ih => rw [back, List.length_set, ih]
        exact this vs
      by_cases h : j < ρ.length
      · rw [List.getElem?_set_self (by rw [hl]; exact h), List.getElem?_eq_getElem h]; rfl
      · have z : ρ[j]? = none := List.getElem?_eq_none (by omega)
        rw [List.getElem?_eq_none (by rw [List.length_set, hl]; omega), z]; rfl
    · rw [List.getElem?_set_ne (Ne.symm e), back_get]
      simp [e]
theorem wipe_get : ∀ {vs : List Nat} {ρ : Env} (j : Nat), (wipe vs ρ)[j]? = if j ∈ vs then (ρ[j]?).map fun _ => none else ρ[j]?
  | [], _, j => by simp
  | v :: vs, ρ, j => by
    rw [wipe]
    by_cases e : j = v
    · subst e
      rw [if_pos (by simp)]
      have hl : (wipe vs ρ).length = ρ.length := by
        have : ∀ vs : List Nat, (wipe vs ρ).length = ρ.length := fun vs => by
          induction vs with
          | nil => rfl
          | cons v vs ih => rw [wipe, List.length_set, ih]
        exact this vs
      by_cases h : j < ρ.length
      · rw [List.getElem?_set_self (by rw [hl]; exact h), List.getElem?_eq_getElem h]; rfl
      · rw [List.getElem?_eq_none (by rw [List.length_set, hl]; omega), List.getElem?_eq_none (by omega)]; rfl
    · rw [List.getElem?_set_ne (Ne.symm e), wipe_get]
      simp [e]
theorem back_wipe {vs : List Nat} {ρ : Env} : back vs ρ (wipe vs ρ) = ρ := by
  apply List.ext_getElem?
  intro j
  rw [back_get, wipe_get]
  by_cases h : j ∈ vs
  · rw [if_pos h, if_pos h]
    cases e : ρ[j]? <;> simp
  · rw [if_neg h, if_neg h]
section
variable (p q : PV)
theorem cmp_eq : cmpV .Eq p q = eqV p q := rfl
theorem cmp_ne : cmpV .NotEq p q = (eqV p q).map (!·) := rfl
theorem cmp_lt : cmpV .Lt p q = ltV p q := rfl
theorem cmp_gt : cmpV .Gt p q = gtV p q := rfl
theorem cmp_le : cmpV .LtE p q = leV p q := rfl
theorem cmp_ge : cmpV .GtE p q = leV q p := rfl
theorem cmp_in : cmpV .In p q = inV p q := rfl
theorem cmp_nin : cmpV .NotIn p q = (inV p q).map (!·) := rfl
theorem cmp_is : cmpV .Is p .non = some (isNonV p) := rfl
theorem cmp_isb (b : Bool) : cmpV .Is p (.bl b) = some (isTV b p) := rfl
theorem cmp_isn : cmpV .IsNot p .non = some (!isNonV p) := rfl
theorem cmp_isnb (b : Bool) : cmpV .IsNot p (.bl b) = some (!isTV b p) := rfl
end
theorem cut_drop {α : Type} (xs : List α) (d : Nat) (h : d ≤ xs.length) : cut xs (some (d : Int)) none = xs.drop d := by
  unfold cut; rw [HT.sIx_nat, HT.sIx_none, Nat.min_eq_left h]; exact List.take_of_length_le (by simp)
theorem cut_take {α : Type} (xs : List α) (d : Nat) (h : d ≤ xs.length) : cut xs none (some (d : Int)) = xs.take d := by
  unfold cut; rw [HT.sIx_nat, HT.sIx_none, Nat.min_eq_left h]; simp
theorem cut_dropLast {α : Type} (xs : List α) (h : 0 < xs.length) : cut xs none (some (-1)) = xs.dropLast := by
  unfold cut HT.sIx; simp [List.dropLast_eq_take]; omega
/-- one item of a comprehension -/
@[simp] def lcStep (vs : List Nat) (t : TG) (tst : T) (e : E) (x : PV) (ρ : Env) : Out (Option PV) := (bT t (.pv x) ρ).bd fun _ ρ1 => (tst ρ1).bd fun c ρ2 => if c = true then (e ρ2).bd fun y ρ3 => .ok (some y.val) (wipe vs ρ3) else .ok none (wipe vs ρ2)
theorem lcL_some {vs : List Nat} {t : TG} {tst : T} {e : E} {x y : PV} {xs ys : List PV} {ρ ρ2 ρ4 : Env} (h : lcStep vs t tst e x ρ = .ok (some y) ρ2) (h2 : lcL vs t tst e xs ρ2 = .ok ys ρ4) : lcL vs t tst e (x :: xs) ρ = .ok (y :: ys) ρ4 := by
  rw [lcL]
  unfold lcStep at h
  cases h1 : bT t (.pv x) ρ with
  | bad => rw [h1] at h; cases h
  | exc _ _ _ => rw [h1] at h; cases h
  | ok u ρ1 =>
    rw [h1] at h
    simp only [Out.bd] at h ⊢
    cases h3 : tst ρ1 with
    | bad => rw [h3] at h; cases h
    | exc _ _ _ => rw [h3] at h; cases h
    | ok c ρ3 =>
      rw [h3] at h
      simp only [Out.bd] at h ⊢
      cases c with
      | false => rw [if_neg Bool.false_ne_true] at h; cases h
      | true =>
        rw [if_pos rfl] at h ⊢
        cases h5 : e ρ3 with
        | bad => rw [h5] at h; cases h
        | exc _ _ _ => rw [h5] at h; cases h
        | ok z ρ5 =>
          rw [h5] at h
          simp only [Out.bd] at h ⊢
          cases h
          rw [h2]
theorem lcL_none {vs : List Nat} {t : TG} {tst : T} {e : E} {x : PV} {xs ys : List PV} {ρ ρ2 ρ4 : Env} (h : lcStep vs t tst e x ρ = .ok none ρ2) (h2 : lcL vs t tst e xs ρ2 = .ok ys ρ4) : lcL vs t tst e (x :: xs) ρ = .ok ys ρ4 := by
  rw [lcL]
  unfold lcStep at h
  cases h1 : bT t (.pv x) ρ with
  | bad => rw [h1] at h; cases h
  | exc _ _ _ => rw [h1] at h; cases h
  | ok u ρ1 =>
    rw [h1] at h
    simp only [Out.bd] at h ⊢
    cases h3 : tst ρ1 with
    | bad => rw [h3] at h; cases h
    | exc _ _ _ => rw [h3] at h; cases h
    | ok c ρ3 =>
      rw [h3] at h
      simp only [Out.bd] at h ⊢
      cases c with
      | true =>
        rw [if_pos rfl] at h
        cases h5 : e ρ3 with
        | bad => rw [h5] at h; cases h
        | exc _ _ _ => rw [h5] at h; cases h
        | ok z ρ5 => rw [h5] at h; cases h
      | false =>
        rw [if_neg Bool.false_ne_true] at h ⊢
        cases h
        exact h2
theorem lcL_f {α : Type} {vs : List Nat} {t : TG} {tst : T} {e : E} {ρ : Env} {enc : α → PV} {f : α → Option PV} : ∀ {l : List α}, (∀ x ∈ l, lcStep vs t tst e (enc x) ρ = .ok (f x) ρ) → lcL vs t tst e (l.map enc) ρ = .ok (l.filterMap f) ρ
  | [], _ => rfl
  | x :: l, h => by
    have ih := lcL_f (l := l) fun z hz => h z (List.mem_cons_of_mem _ hz)
    have hx := h x (by simp)
    rw [List.map_cons]
    cases c : f x with
    | none => rw [c] at hx; rw [lcL_none hx ih, List.filterMap_cons_none c]
    | some y => rw [c] at hx; rw [lcL_some hx ih, List.filterMap_cons_some c]
/-- a comprehension that changes nothing -/
theorem eLc_f {α : Type} {vs : List Nat} {s : Src} {t : TG} {tst : T} {e : E} {ρ ρ' : Env} {enc : α → PV} {f : α → Option PV} {l : List α} (hs : s ρ = .ok (l.map enc) ρ') (no : noOwn vs ρ' = true) (h : ∀ x ∈ l, lcStep vs t tst e (enc x) (wipe vs ρ') = .ok (f x) (wipe vs ρ')) (hl : l.length ≤ szL) :
    eLc vs s t tst e ρ = .ok (.own (.lst (l.filterMap f))) ρ' := by
  unfold eLc
  rw [hs]
  simp only [Out.bd]
  rw [if_pos no, lcL_f h]
  have : (l.filterMap f).length ≤ szL := Nat.le_trans (List.length_filterMap_le _ _) hl
  simp only [nox, Out.bd]
  rw [if_pos this, back_wipe]
theorem eLc_m {α : Type} {vs : List Nat} {s : Src} {t : TG} {e : E} {ρ ρ' : Env} {enc g : α → PV} {l : List α} (hs : s ρ = .ok (l.map enc) ρ') (no : noOwn vs ρ' = true) (h : ∀ x ∈ l, lcStep vs t tYes e (enc x) (wipe vs ρ') = .ok (some (g x)) (wipe vs ρ')) (hl : l.length ≤ szL) :
    eLc vs s t tYes e ρ = .ok (.own (.lst (l.map g))) ρ' := by
  rw [eLc_f (f := fun x => some (g x)) hs no h hl]
  congr 3
  exact congrFun (List.filterMap_eq_map (f := g)) l
theorem eLc_t {α : Type} {vs : List Nat} {s : Src} {t : TG} {tst : T} {e : E} {ρ ρ' : Env} {enc g : α → PV} {p : α → Bool} {l : List α} (hs : s ρ = .ok (l.map enc) ρ') (no : noOwn vs ρ' = true) (h : ∀ x ∈ l, lcStep vs t tst e (enc x) (wipe vs ρ') = .ok (if p x = true then some (g x) else none) (wipe vs ρ')) (hl : l.length ≤ szL) :
    eLc vs s t tst e ρ = .ok (.own (.lst ((l.filter p).map g))) ρ' := by
  rw [eLc_f (f := fun x => if p x = true then some (g x) else none) hs no h hl]
  congr 3
  have : ∀ l : List α, l.filterMap (fun x => if p x = true then some (g x) else none) = (l.filter p).map g := fun l => by
    induction l with
    | nil => rfl
    | cons x l ih =>
      by_cases c : p x = true
      · rw [List.filterMap_cons_some (by rw [if_pos c]), ih, List.filter_cons, if_pos c, List.map_cons]
      · rw [List.filterMap_cons_none (by rw [if_neg c]), ih, List.filter_cons, if_neg c]
  exact this l
/-- a comprehension whose env has an invariant -/
theorem lcL_i {α β : Type} {vs : List Nat} {t : TG} {e : E} {enc : α → PV} {dec : β → PV} {P : Env → Prop} {R : α → β → Prop} : ∀ {l : List α} {ρ : Env}, P ρ → (∀ x ∈ l, ∀ ρ, P ρ → ∃ y ρ', lcStep vs t tYes e (enc x) ρ = .ok (some (dec y)) ρ' ∧ P ρ' ∧ R x y) →
    ∃ ys ρ', lcL vs t tYes e (l.map enc) ρ = .ok (ys.map dec) ρ' ∧ P ρ' ∧ Paired R l ys
  | [], ρ, h, _ => ⟨[], ρ, rfl, h, .nil⟩
  | x :: l, ρ, h, st => by
    obtain ⟨y, ρ1, h1, h2, h3⟩ := st x (by simp) ρ h
    obtain ⟨ys, ρ', h4, h5, h6⟩ := lcL_i (l := l) h2 fun z hz => st z (List.mem_cons_of_mem _ hz)
    exact ⟨y :: ys, ρ', by rw [List.map_cons, List.map_cons]; exact lcL_some h1 h4, h5, .cons h3 h6⟩
theorem eLc_i {α β : Type} {vs : List Nat} {s : Src} {t : TG} {e : E} {ρ ρ' : Env} {enc : α → PV} {dec : β → PV} {P : Env → Prop} {R : α → β → Prop} {l : List α} (hs : s ρ = .ok (l.map enc) ρ') (no : noOwn vs ρ' = true) (hP : P (wipe vs ρ')) (hl : l.length ≤ szL)
    (st : ∀ x ∈ l, ∀ ρ, P ρ → ∃ y ρ', lcStep vs t tYes e (enc x) ρ = .ok (some (dec y)) ρ' ∧ P ρ' ∧ R x y) : ∃ ys ρ2, eLc vs s t tYes e ρ = .ok (.own (.lst (ys.map dec))) (back vs ρ' ρ2) ∧ P ρ2 ∧ Paired R l ys := by
  obtain ⟨ys, ρ2, h1, h2, h3⟩ := lcL_i hP st
  refine ⟨ys, ρ2, ?_, h2, h3⟩
  unfold eLc
  rw [hs]
  simp only [Out.bd]
  rw [if_pos no, h1]
  simp only [nox, Out.bd]
  rw [if_pos (by rw [List.length_map, ← Paired.length h3]; exact hl)]
theorem Paired.all2 {α β : Type} {R : α → β → Prop} {Q : β → Prop} (h : ∀ a b, R a b → Q b) : ∀ {xs : List α} {ys : List β}, Paired R xs ys → ∀ y ∈ ys, Q y
  | _, _, .nil, _, hy => by simp at hy
  | _, _, .cons r t, y, hy => by
    rcases List.mem_cons.mp hy with rfl | hy
    · exact h _ _ r
    · exact Paired.all2 h t y hy
theorem paired_eq {α β : Type} {f : α → β} : ∀ {xs : List α} {ys : List β}, Paired (fun a b => b = f a) xs ys → ys = xs.map f
  | _, _, .nil => rfl
  | _, _, .cons r t => by rw [List.map_cons, r, paired_eq t]
/-! ### loops -/
@[simp] def fStep (t : TG) (b : S) (x : PV) (ρ : Env) : Out Flow := (bT t (.pv x) ρ).bd fun _ ρ1 => b ρ1
theorem forL_step {t : TG} {b : S} {x : PV} {xs : List PV} {ρ ρ2 : Env} (h : fStep t b x ρ = .ok .nx ρ2) : forL t b (x :: xs) ρ = forL t b xs ρ2 := by
  rw [forL]
  unfold fStep at h
  cases h1 : bT t (.pv x) ρ with
  | bad => rw [h1] at h; cases h
  | exc _ _ _ => rw [h1] at h; cases h
  | ok u ρ1 =>
    rw [h1] at h
    simp only [Out.bd] at h ⊢
    rw [h]
theorem forL_brk {t : TG} {b : S} {x : PV} {xs : List PV} {ρ ρ2 : Env} (h : fStep t b x ρ = .ok .brk ρ2) : forL t b (x :: xs) ρ = .ok .nx ρ2 := by
  rw [forL]
  unfold fStep at h
  cases h1 : bT t (.pv x) ρ with
  | bad => rw [h1] at h; cases h
  | exc _ _ _ => rw [h1] at h; cases h
  | ok u ρ1 =>
    rw [h1] at h
    simp only [Out.bd] at h ⊢
    rw [h]
theorem forL_ret {t : TG} {b : S} {x : PV} {xs : List PV} {ρ ρ2 : Env} {v : XV} (h : fStep t b x ρ = .ok (.ret v) ρ2) : forL t b (x :: xs) ρ = .ok (.ret v) ρ2 := by
  rw [forL]
  unfold fStep at h
  cases h1 : bT t (.pv x) ρ with
  | bad => rw [h1] at h; cases h
  | exc _ _ _ => rw [h1] at h; cases h
  | ok u ρ1 =>
    rw [h1] at h
    simp only [Out.bd] at h ⊢
    rw [h]
/-- a loop as a fold: I says which env stands for a state -/
theorem forL_fold {α σ : Type} {t : TG} {b : S} {enc : α → PV} {I : σ → Env → Prop} {f : σ → α → σ} : ∀ {l : List α} {s : σ} {ρ : Env}, I s ρ → (∀ s, ∀ x ∈ l, ∀ ρ, I s ρ → ∃ ρ', fStep t b (enc x) ρ = .ok .nx ρ' ∧ I (f s x) ρ') → ∃ ρ', forL t b (l.map enc) ρ = .ok .nx ρ' ∧ I (l.foldl f s) ρ'
  | [], s, ρ, h, _ => ⟨ρ, rfl, h⟩
  | x :: l, s, ρ, h, st => by
    obtain ⟨ρ1, h1, h2⟩ := st s x (by simp) ρ h
    obtain ⟨ρ', h3, h4⟩ := forL_fold (l := l) h2 fun s z hz => st s z (List.mem_cons_of_mem _ hz)
    exact ⟨ρ', by rw [List.map_cons, forL_step h1]; exact h3, h4⟩
theorem whl_step {t : T} {b : S} {n : Nat} {ρ ρ1 ρ2 : Env} (h1 : t ρ = .ok true ρ1) (h2 : b ρ1 = .ok .nx ρ2) : whl t b (n + 1) ρ = whl t b n ρ2 := by
  rw [whl, h1]
  simp only [Out.bd, if_true, h2]
theorem whl_end {t : T} {b : S} {n : Nat} {ρ ρ1 : Env} (h1 : t ρ = .ok false ρ1) : whl t b (n + 1) ρ = .ok .nx ρ1 := by
  rw [whl, h1]
  simp only [Out.bd, Bool.false_eq_true, if_false]
theorem sFor_ok {s : Src} {t : TG} {b : S} {ρ ρ1 ρ2 : Env} {xs : List PV} {f : Flow} (h1 : s ρ = .ok xs ρ1) (h2 : forL t b xs ρ1 = .ok f ρ2) : sFor s t b ρ = .ok f ρ2 := by
  simp only [sFor, h1, h2, Out.bd]
theorem rgL_nat (n : Nat) : rgL 0 (n : Int) = (List.range n).map fun i : Nat => PV.int (i : Int) := rgL_zero n
end Pi

/-! # Values that run through a sequence: a list of what came, a dict of when it came -/
namespace Pi
open PySem
/-- what is told as a tuple that can be a key -/
structure KEnc {α : Type} [DecidableEq α] (enc : α → PV) : Prop where
  eq : ∀ a b, eqv (enc a) (enc b) = decide (a = b)
  pl : ∀ a, pl 20 (enc a) = true
  nk : ∀ a, isNK (enc a) = true
  sk : ∀ a, isSK (enc a) = false
  tup : ∀ a, ∃ l, enc a = .tup l
section
variable {α : Type} [DecidableEq α] {enc : α → PV} (E : KEnc enc) (q : Nat → α)
def sqL (enc : α → PV) (n : Nat) : List PV := (List.range n).map fun i => enc (q i)
def sqD (enc : α → PV) (n : Nat) : List PV := (List.range n).map fun i => .tup [enc (q i), .int (i : Nat)]
/-- the first of n that is as the n-th -/
def sqHit (n : Nat) : Option Nat := (List.range n).find? fun i => decide (q i = q n)
theorem sqL_len (n : Nat) : (sqL q enc n).length = n := by simp [sqL]
theorem sqL_succ (n : Nat) : sqL q enc (n + 1) = sqL q enc n ++ [enc (q n)] := by simp [sqL, List.range_succ]
theorem sqD_len (n : Nat) : (sqD q enc n).length = n := by simp [sqD]
theorem sqD_succ (n : Nat) : sqD q enc (n + 1) = sqD q enc n ++ [.tup [enc (q n), .int (n : Nat)]] := by simp [sqD, List.range_succ]
include E
theorem look_kmap {f : Nat → α} {w : α} : ∀ l : List Nat, look (l.map fun i => .tup [enc (f i), .int (i : Nat)]) (enc w) = (l.find? fun i => decide (f i = w)).map fun i => .int (i : Nat)
  | [] => rfl
  | i :: l => by
    rw [List.map_cons, look, E.eq, List.find?_cons]
    by_cases h : f i = w
    · simp [h]
    · rw [decide_eq_false h, if_neg Bool.false_ne_true, look_kmap l]
theorem look_sqD (n : Nat) : look (sqD q enc n) (enc (q n)) = (sqHit q n).map fun i => .int (i : Nat) := look_kmap E _
theorem dkOk_sqD (n : Nat) (a : α) : dkOk (sqD q enc n) (enc a) = true := by
  unfold dkOk
  rw [E.nk, Bool.or_true, Bool.true_and, List.all_eq_true]
  intro e he
  obtain ⟨i, _, rfl⟩ := List.mem_map.mp he
  simp [-isSK, keyOf, E.sk]
theorem in_klist {l : List α} (a : α) : inV (enc a) (.lst (l.map enc)) = some (decide (a ∈ l)) := by
  have h1 : (l.map enc).all (Pi.pl 20) = true := by
    rw [List.all_eq_true]
    intro x hx
    obtain ⟨i, _, rfl⟩ := List.mem_map.mp hx
    exact E.pl i
  have h2 : inVs (enc a) (l.map enc) = decide (a ∈ l) := by
    unfold inVs
    rw [List.any_map]
    apply Bool.eq_iff_iff.mpr
    simp [E.eq]
  have h3 := E.pl a
  obtain ⟨t, ht⟩ := E.tup a
  rw [ht] at h2 h3 ⊢
  simp only [inV, h1, h3, h2, Bool.and_true, if_true]
theorem in_klist' {l : List α} (a : α) : ∃ b, inV (enc a) (.lst (l.map enc)) = some b ∧ (b = true ↔ a ∈ l) := ⟨_, in_klist E a, by simp⟩
theorem in_ktup {l : List α} (a : α) : ∃ b, inV (enc a) (.tup (l.map enc)) = some b ∧ (b = true ↔ a ∈ l) := by
  obtain ⟨b, h, h2⟩ := in_klist' E (l := l) a
  refine ⟨b, ?_, h2⟩
  rw [← h]
  obtain ⟨t, ht⟩ := E.tup a
  rw [ht]
  rfl
theorem in_sqL (n : Nat) : inV (enc (q n)) (.lst (sqL q enc n)) = some (sqHit q n).isSome := by
  have := in_klist E (l := (List.range n).map q) (q n)
  rw [List.map_map] at this
  show inV (enc (q n)) (.lst ((List.range n).map (enc ∘ q))) = _
  rw [this]
  congr 1
  apply Bool.eq_iff_iff.mpr
  simp [sqHit]
theorem notIn_sqD (n : Nat) : cmpV .NotIn (enc (q n)) (.dic (sqD q enc n)) = some (!(sqHit q n).isSome) := by
  have h1 := dkOk_sqD E q n (q n)
  have h2 := look_sqD E q n
  rw [cmp_nin]
  have : inV (enc (q n)) (.dic (sqD q enc n)) = some (look (sqD q enc n) (enc (q n))).isSome := by
    obtain ⟨t, ht⟩ := E.tup (q n)
    rw [ht] at h1 ⊢
    simp only [inV, h1, if_true]
  rw [this, h2, Option.isSome_map]
  rfl
theorem findIdx_range {f : Nat → PV} {p : PV → Bool} (n : Nat) : ((List.range n).map f).findIdx? p = (List.range n).find? fun i => p (f i) := by
  rw [List.findIdx?_map]
  cases h : (List.range n).find? (fun i => p (f i)) with
  | none =>
    rw [List.findIdx?_eq_none_iff]
    intro x hx
    simpa using List.find?_eq_none.mp h x hx
  | some i =>
    rw [List.find?_range_eq_some] at h
    obtain ⟨h1, h2, h3⟩ := h
    have hi : i < n := by simpa using h2
    rw [List.findIdx?_eq_some_iff_getElem]
    refine ⟨by simpa using hi, by simpa using h1, fun j hj => ?_⟩
    have := h3 j hj
    simpa using this
theorem index_sqL (n : Nat) : indexV (.lst (sqL q enc n)) (enc (q n)) = (sqHit q n).map fun i => .pv (.int (i : Nat)) := by
  have h1 : (sqL q enc n).all (Pi.pl 20) = true := by
    rw [List.all_eq_true]
    intro x hx
    obtain ⟨i, _, rfl⟩ := List.mem_map.mp hx
    exact E.pl _
  simp only [indexV, h1, E.pl, Bool.and_true, if_true]
  congr 1
  unfold sqL sqHit
  rw [findIdx_range E]
  congr 1
  funext i
  simp [E.eq]
theorem put_sqD {n : Nat} (h : sqHit q n = none) : putD (sqD q enc n) (enc (q n)) (.int (n : Nat)) = sqD q enc (n + 1) := by
  unfold putD
  rw [look_sqD E, h, sqD_succ]
  rfl
theorem set_sqD {n i : Nat} {ρ : Env} (h : sqHit q n = none) (hz : n < szL) (hi : ρ[i]? = some (some (.own (.dic (sqD q enc n))))) : setIx i (enc (q n)) (.int (n : Nat)) ρ = .ok () (ρ.set i (some (.own (.dic (sqD q enc (n + 1)))))) := by
  have h1 := dkOk_sqD E q n (q n)
  have h2 := put_sqD E q h
  simp only [setIx, hi, h1, h2, sqD_len, hz, Bool.true_and, decide_true, if_true]
theorem ix_sqD {n j : Nat} (h : sqHit q n = some j) : ixV (.dic (sqD q enc n)) (enc (q n)) = some (.pv (.int (j : Nat))) := by
  have : getD (sqD q enc n) (enc (q n)) = some (.int (j : Nat)) := by
    unfold getD
    rw [if_pos (dkOk_sqD E q n (q n)), look_sqD E, h]
    rfl
  simp only [ixV, this]
  rfl
omit E
/-- the first m below b where what comes came before -/
def sqEnd (b : Nat) : Option Nat := (List.range b).find? fun m => (sqHit q m).isSome
theorem sqEnd_some {b m : Nat} (h : sqEnd q b = some m) : m < b ∧ (∀ i < m, sqHit q i = none) ∧ ∃ j, sqHit q m = some j ∧ j < m := by
  unfold sqEnd at h
  rw [List.find?_range_eq_some] at h
  obtain ⟨h1, h2, h3⟩ := h
  refine ⟨by simpa using h2, fun i hi => by simpa using h3 i hi, ?_⟩
  obtain ⟨j, hj⟩ := Option.isSome_iff_exists.mp h1
  refine ⟨j, hj, ?_⟩
  unfold sqHit at hj
  rw [List.find?_range_eq_some] at hj
  simpa using hj.2.1
theorem sqEnd_none {b : Nat} (h : sqEnd q b = none) : ∀ i < b, sqHit q i = none := fun i hi => by
  have := List.find?_eq_none.mp h i (by simpa using hi)
  simpa using this
end
theorem sSeq_ret {a b : S} {ρ ρ1 : Env} {v : XV} (h : a ρ = .ok (.ret v) ρ1) : sSeq a b ρ = .ok (.ret v) ρ1 := by simp only [sSeq, h, Out.bd]
theorem srR1_ok {a : OP} {ρ ρ1 : Env} {r : RV} {j : Int} (h : a ρ = .ok r ρ1) (hd : dr ρ1 r = some (.int j)) (hg : rgOk 0 j = true) : srR1 a ρ = .ok (rgL 0 j) ρ1 := by
  simp only [srR1, h, Out.bd, hd, Option.bind_some, rgV, hg, if_true, res]
theorem srR2_ok {a b : OP} {ρ ρ1 ρ2 : Env} {r q : RV} {i j : Int} (h : a ρ = .ok r ρ1) (h2 : b ρ1 = .ok q ρ2) (hd : dr ρ2 r = some (.int i)) (hd2 : dr ρ2 q = some (.int j)) (hg : rgOk i j = true) : srR2 a b ρ = .ok (rgL i j) ρ2 := by
  simp only [srR2, h, h2, Out.bd, hd, hd2, Option.bind_some, rgV, hg, if_true, res]
theorem rg_small (i j : Int) (h : -1000 ≤ i) (h2 : i ≤ 1000) (h3 : -1000 ≤ j) (h4 : j ≤ 100000) : rgOk i j = true := by
  unfold rgOk
  rw [decide_eq_true (by omega), decide_eq_true (by omega), decide_eq_true (by omega), decide_eq_true (by omega), decide_eq_true (by omega)]
  rfl
theorem mul_small (i j : Int) (h3 : -1000000 ≤ j) (h4 : j ≤ 1000000) : mulOk i j = true := by
  unfold mulOk
  rw [decide_eq_true (p := -18446744073709551616 < j) (by omega), decide_eq_true (p := j < 18446744073709551616) (by omega)]
  rw [Bool.and_self, Bool.or_true, Bool.true_or]
theorem mul_int (i j : Int) (h : mulOk i j = true) : binV .Mult (.int i) (.int j) = some (.pv (.int (i * j))) := by
  simp only [binV, mulV, h, if_true]
theorem eBin_ok {f : PV → PV → Option XV} {a b : OP} {ρ ρ1 ρ2 : Env} {r q : RV} {x y : PV} {z : XV} (h1 : a ρ = .ok r ρ1) (h2 : b ρ1 = .ok q ρ2) (d1 : dr ρ2 r = some x) (d2 : dr ρ2 q = some y) (h : f x y = some z) : eBin f a b ρ = .ok z ρ2 := by
  simp only [eBin, h1, h2, Out.bd, d1, d2, Option.bind_some, h, res]
theorem eUn_ok {f : PV → Option XV} {a : OP} {ρ ρ1 : Env} {r : RV} {x : PV} {z : XV} (h1 : a ρ = .ok r ρ1) (d1 : dr ρ1 r = some x) (h : f x = some z) : eUn f a ρ = .ok z ρ1 := by
  simp only [eUn, h1, Out.bd, d1, Option.bind_some, h, res]
theorem oE_ok {e : E} {ρ ρ1 : Env} {x : XV} (h : e ρ = .ok x ρ1) : oE e ρ = .ok (.v x) ρ1 := by
  simp only [oE, h, Out.bd]
theorem add_lst {xs ys : List PV} (h : xs.length + ys.length ≤ szL) : binV .Add (.lst xs) (.lst ys) = some (.own (.lst (xs ++ ys))) := by
  simp only [binV, addV, h, if_true]
theorem add_tup {xs ys : List PV} (h : xs.length + ys.length ≤ szL) : binV .Add (.tup xs) (.tup ys) = some (.pv (.tup (xs ++ ys))) := by
  simp only [binV, addV, h, if_true]
theorem sAsg_ok {t : TG} {e : E} {ρ ρ1 ρ2 : Env} {x : XV} (h : e ρ = .ok x ρ1) (h2 : bT t x ρ1 = .ok () ρ2) : sAsg t e ρ = .ok .nx ρ2 := by
  simp only [sAsg, h, h2, Out.bd]
theorem fStep_ok {t : TG} {b : S} {x : PV} {ρ ρ1 ρ2 : Env} {fl : Flow} (h : bT t (.pv x) ρ = .ok () ρ1) (h2 : b ρ1 = .ok fl ρ2) : fStep t b x ρ = .ok fl ρ2 := by
  simp only [fStep, h, h2, Out.bd]
theorem sRet_ok {e : E} {ρ ρ1 : Env} {x : XV} (h : e ρ = .ok x ρ1) : sRet e ρ = .ok (.ret x) ρ1 := by
  simp only [sRet, h, Out.bd]
theorem min2_nat (a b : Nat) : min2V (.int (a : Int)) (.int (b : Int)) = some (.pv (.int ((min a b : Nat) : Int))) := by
  simp only [min2V, Option.some.injEq, XV.pv.injEq, PV.int.injEq]
  split <;> omega
theorem max2_nat (a b : Nat) : max2V (.int (a : Int)) (.int (b : Int)) = some (.pv (.int ((max a b : Nat) : Int))) := by
  simp only [max2V, Option.some.injEq, XV.pv.injEq, PV.int.injEq]
  split <;> omega
theorem max2_sub (a b : Nat) : max2V (.int 0) (.int ((a : Int) - (b : Int))) = some (.pv (.int ((a - b : Nat) : Int))) := by
  simp only [max2V, Option.some.injEq, XV.pv.injEq, PV.int.injEq]
  split <;> omega
/-! ### ints and rows of ints -/
theorem eqvs_ints : ∀ a b : List Int, eqvs (a.map PV.int) (b.map PV.int) = decide (a = b)
  | [], [] => by simp [eqvs]
  | [], _ :: _ => by simp [eqvs]
  | _ :: _, [] => by simp [eqvs]
  | x :: a, y :: b => by
    rw [List.map_cons, List.map_cons, eqvs, eqvs_ints a b, eqv]
    by_cases h : x = y <;> by_cases h2 : a = b <;> simp [h, h2]
def rowP (a : List Int) : PV := .tup (a.map .int)
theorem eqv_rowP (a b : List Int) : eqv (rowP a) (rowP b) = decide (a = b) := by
  unfold rowP
  rw [eqv, eqvs_ints]
theorem eqvs_rows : ∀ a b : List (List Int), eqvs (a.map rowP) (b.map rowP) = decide (a = b)
  | [], [] => by simp [eqvs]
  | [], _ :: _ => by simp [eqvs]
  | _ :: _, [] => by simp [eqvs]
  | x :: a, y :: b => by
    rw [List.map_cons, List.map_cons, eqvs, eqvs_rows a b, eqv_rowP]
    by_cases h : x = y <;> by_cases h2 : a = b <;> simp [h, h2]
theorem rowP_k : KEnc rowP where
  eq := eqv_rowP
  pl := fun a => by
    unfold rowP
    rw [pl, List.all_eq_true]
    intro x hx
    obtain ⟨i, _, rfl⟩ := List.mem_map.mp hx
    rw [pl]
  nk := fun a => by
    unfold rowP isNK
    rw [List.all_eq_true]
    intro x hx
    obtain ⟨i, _, rfl⟩ := List.mem_map.mp hx
    rw [kD]
  sk := fun _ => rfl
  tup := fun _ => ⟨_, rfl⟩
theorem pl_ints (n : Nat) (a : List Int) : pl (n + 1) (.lst (a.map PV.int)) = true ∧ pl (n + 1) (.tup (a.map PV.int)) = true := by
  constructor
  all_goals
    rw [pl, List.all_eq_true]
    intro x hx
    obtain ⟨i, _, rfl⟩ := List.mem_map.mp hx
    rw [pl]
theorem eqV_lstI (a b : List Int) : eqV (.lst (a.map PV.int)) (.lst (b.map PV.int)) = some (decide (a = b)) := by
  rw [eqV, (pl_ints 19 a).1, (pl_ints 19 b).1, eqv, eqvs_ints]
  rfl
theorem eqV_tupI (a b : List Int) : eqV (.tup (a.map PV.int)) (.tup (b.map PV.int)) = some (decide (a = b)) := by
  rw [eqV, (pl_ints 19 a).2, (pl_ints 19 b).2, eqv, eqvs_ints]
  rfl
theorem eqV_k {α : Type} [DecidableEq α] {enc : α → PV} (E : KEnc enc) (a b : α) : eqV (enc a) (enc b) = some (decide (a = b)) := by
  rw [eqV, E.pl, E.pl, E.eq]
  rfl
theorem rgL_from (a d : Nat) : rgL (a : Int) ((a : Int) + (d : Int)) = (List.range' a d).map fun i : Nat => PV.int (i : Int) := by
  unfold rgL
  have : ((a : Int) + (d : Int) - (a : Int)).toNat = d := by omega
  rw [this, List.range'_eq_map_range, List.map_map]
  apply List.map_congr_left
  intro i _
  simp
theorem foldl_fm {α β : Type} (g : α → Option β) : ∀ (l : List α) (s : List β), l.foldl (fun s c => s ++ (g c).toList) s = s ++ l.filterMap g
  | [], s => by simp
  | c :: l, s => by
    rw [List.foldl_cons, foldl_fm g l, List.filterMap_cons]
    cases g c <;> simp
def rowsP (a : List (List Int)) : PV := .tup (a.map rowP)
theorem rowsP_k : KEnc rowsP where
  eq := fun a b => by
    unfold rowsP
    rw [eqv, eqvs_rows]
  pl := fun a => by
    unfold rowsP
    rw [pl, List.all_eq_true]
    intro x hx
    obtain ⟨r, _, rfl⟩ := List.mem_map.mp hx
    unfold rowP
    rw [pl, List.all_eq_true]
    intro x hx
    obtain ⟨i, _, rfl⟩ := List.mem_map.mp hx
    rw [pl]
  nk := fun a => by
    unfold rowsP isNK
    rw [List.all_eq_true]
    intro x hx
    obtain ⟨r, _, rfl⟩ := List.mem_map.mp hx
    unfold rowP
    rw [kD, List.all_eq_true]
    intro x hx
    obtain ⟨i, _, rfl⟩ := List.mem_map.mp hx
    rw [kD]
  sk := fun _ => rfl
  tup := fun _ => ⟨_, rfl⟩
/-! ### sorted -/
theorem lexLt_cons (O : PyProof.Rows.KeyOrd) (x y : O.α) (a b : List O.α) : PyProof.Rows.lexLt O (x :: a) (y :: b) = (O.blt x y || (!O.blt y x && PyProof.Rows.lexLt O a b)) := by
  rw [PyProof.Rows.lexLt]
  all_goals (first | rfl | simp)
theorem sLe_first (i j : Int) (a b : List PV) : sLe (.tup (.int i :: a)) (.tup (.int j :: b)) = (decide (i < j) || (decide (i = j) && sLe (.tup a) (.tup b))) := by
  have h := lexLt_cons PyProof.Rows.itemOrd (Sum.inl j) (Sum.inl i) (W.keyToksAll (toDs b)) (W.keyToksAll (toDs a))
  show (!PyProof.Rows.lexLt PyProof.Rows.itemOrd (Sum.inl j :: W.keyToksAll (toDs b)) (Sum.inl i :: W.keyToksAll (toDs a))) = (decide (i < j) || (decide (i = j) && !PyProof.Rows.lexLt PyProof.Rows.itemOrd (W.keyToksAll (toDs b)) (W.keyToksAll (toDs a))))
  rw [h]
  show (!(decide (j < i) || (!decide (i < j) && _))) = _
  by_cases h : i < j
  · have h2 : ¬ j < i := by omega
    simp [h, h2]
  · by_cases h2 : i = j
    · subst h2; simp
    · have h3 : j < i := by omega
      simp [h, h2, h3]
theorem isort_key {α : Type} (g : α → PV) (key : α → Nat) (hk : ∀ a b, key a ≠ key b → sLe (g a) (g b) = decide (key a < key b)) : ∀ L : List α, L.Pairwise (fun a b => key a ≠ key b) → ∃ L' : List α, isort sLe (L.map g) = L'.map g ∧ (∀ x, x ∈ L' ↔ x ∈ L) ∧ L'.Pairwise (fun a b => key a < key b)
  | [], _ => ⟨[], rfl, fun _ => Iff.rfl, .nil⟩
  | a :: L, h => by
    obtain ⟨h1, h2⟩ := List.pairwise_cons.mp h
    obtain ⟨L1, e1, m1, p1⟩ := isort_key g key hk L h2
    have ins : ∀ L1 : List α, L1.Pairwise (fun a b => key a < key b) → (∀ x ∈ L1, key a ≠ key x) → ∃ L' : List α, insL sLe (g a) (L1.map g) = L'.map g ∧ (∀ x, x ∈ L' ↔ x = a ∨ x ∈ L1) ∧ L'.Pairwise (fun a b => key a < key b) := by
      intro L1
      induction L1 with
      | nil => intro _ _; exact ⟨[a], rfl, by simp, by simp⟩
      | cons b L1 ih =>
        intro p hne
        obtain ⟨q1, q2⟩ := List.pairwise_cons.mp p
        have hab := hne b (by simp)
        rw [List.map_cons, insL, hk a b hab]
        by_cases hlt : key a < key b
        · rw [decide_eq_true hlt, if_pos rfl]
          refine ⟨a :: b :: L1, rfl, by simp, List.pairwise_cons.mpr ⟨fun x hx => ?_, p⟩⟩
          rcases List.mem_cons.mp hx with rfl | hx
          · exact hlt
          · have := q1 x hx; omega
        · rw [decide_eq_false hlt, if_neg Bool.false_ne_true]
          obtain ⟨L', e, m, pp⟩ := ih q2 (fun x hx => hne x (by simp [hx]))
          refine ⟨b :: L', by rw [e]; rfl, fun x => ?_, List.pairwise_cons.mpr ⟨fun x hx => ?_, pp⟩⟩
          · simp only [List.mem_cons, m]
            constructor
            · rintro (h | h | h)
              · exact .inr (.inl h)
              · exact .inl h
              · exact .inr (.inr h)
            · rintro (h | h | h)
              · exact .inr (.inl h)
              · exact .inl h
              · exact .inr (.inr h)
          · rcases (m x).mp hx with rfl | hx
            · omega
            · exact q1 x hx
    obtain ⟨L', e, m, p⟩ := ins L1 p1 fun x hx => h1 x ((m1 x).mp hx)
    refine ⟨L', by rw [List.map_cons, isort, e1, e], fun x => ?_, p⟩
    rw [m, m1, List.mem_cons]
theorem sorted_eq {α : Type} (key : α → Nat) : ∀ A B : List α, A.Pairwise (fun a b => key a < key b) → B.Pairwise (fun a b => key a < key b) → (∀ x, x ∈ A ↔ x ∈ B) → A = B
  | [], [], _, _, _ => rfl
  | [], b :: B, _, _, h => absurd ((h b).mpr (by simp)) (by simp)
  | a :: A, [], _, _, h => absurd ((h a).mp (by simp)) (by simp)
  | a :: A, b :: B, hA, hB, h => by
    obtain ⟨a1, a2⟩ := List.pairwise_cons.mp hA
    obtain ⟨b1, b2⟩ := List.pairwise_cons.mp hB
    have hab : a = b := by
      rcases List.mem_cons.mp ((h a).mp (by simp)) with e | e
      · exact e
      · rcases List.mem_cons.mp ((h b).mpr (by simp)) with e2 | e2
        · exact e2.symm
        · have := b1 a e; have := a1 b e2; omega
    subst hab
    rw [sorted_eq key A B a2 b2 fun x => ?_]
    constructor
    · intro hx
      rcases List.mem_cons.mp ((h x).mp (by simp [hx])) with e | e
      · have := a1 x hx; rw [e] at this; omega
      · exact e
    · intro hx
      rcases List.mem_cons.mp ((h x).mpr (by simp [hx])) with e | e
      · have := b1 x hx; rw [e] at this; omega
      · exact e
theorem sort_key {α : Type} (g : α → PV) (key : α → Nat) {L M : List α} (hok : sortOk (L.map g) = true) (hk : ∀ a b, key a ≠ key b → sLe (g a) (g b) = decide (key a < key b)) (hn : L.Pairwise (fun a b => key a ≠ key b)) (hm : ∀ x, x ∈ M ↔ x ∈ L) (hM : M.Pairwise (fun a b => key a < key b)) : sortV (.lst (L.map g)) = some (.own (.lst (M.map g))) := by
  obtain ⟨L', e, m, p⟩ := isort_key g key hk L hn
  have : L' = M := sorted_eq key L' M p hM fun x => by rw [m, hm]
  rw [this] at e
  simp only [sortV, items, Option.bind_some, hok, if_true, e]
theorem alk_ints : ∀ a b : List Int, PySem.W.alikeAll (toDs (a.map .int)) (toDs (b.map .int)) = true
  | [], _ => by simp only [List.map_nil, toDs, PySem.W.alikeAll]
  | _ :: _, [] => by simp only [List.map_cons, List.map_nil, toDs, PySem.W.alikeAll]
  | x :: a, y :: b => by
    rw [List.map_cons, List.map_cons, toDs, toDs, PySem.W.alikeAll, alk_ints a b, toD, toD, PySem.W.alike]
    rfl
theorem alk_rows : ∀ a b : List (List Int), PySem.W.alikeAll (toDs (a.map rowP)) (toDs (b.map rowP)) = true
  | [], _ => by simp only [List.map_nil, toDs, PySem.W.alikeAll]
  | _ :: _, [] => by simp only [List.map_cons, List.map_nil, toDs, PySem.W.alikeAll]
  | x :: a, y :: b => by
    rw [List.map_cons, List.map_cons, toDs, toDs, PySem.W.alikeAll, alk_rows a b]
    unfold rowP
    rw [toD, toD, PySem.W.alike, alk_ints]
    rfl
theorem pl_rows (n : Nat) (a : List (List Int)) : pl (n + 2) (rowsP a) = true := by
  unfold rowsP
  rw [pl, List.all_eq_true]
  intro x hx
  obtain ⟨r, _, rfl⟩ := List.mem_map.mp hx
  exact (pl_ints n r).2
/-- pairs of a number and rows can be sorted -/
theorem sortOk_ir {α : Type} (i : α → Int) (r : α → List (List Int)) (L : List α) : sortOk (L.map fun x => .tup [.int (i x), rowsP (r x)]) = true := by
  unfold sortOk
  rw [Bool.and_eq_true, Bool.and_eq_true, Bool.or_eq_true]
  refine ⟨⟨?_, ?_⟩, .inl ?_⟩
  · rw [List.all_eq_true]
    intro x hx
    obtain ⟨a, _, rfl⟩ := List.mem_map.mp hx
    rw [pl, List.all_cons, List.all_cons, List.all_nil, pl_rows 17, pl]
    rfl
  · rw [List.all_eq_true]
    intro x hx
    obtain ⟨a, _, rfl⟩ := List.mem_map.mp hx
    rw [List.all_eq_true]
    intro y hy
    obtain ⟨b, _, rfl⟩ := List.mem_map.mp hy
    unfold rowsP
    simp only [toD, toDs, PySem.W.alike, PySem.W.alikeAll, alk_rows, Bool.and_self]
  · rw [List.all_eq_true]
    intro x hx
    obtain ⟨a, _, rfl⟩ := List.mem_map.mp hx
    rfl
end Pi

namespace Law
open PySem Pi L2 He
def top (i : Nat) : Stmt := PySem.Challenge.pw_spreadheld_k81_whole_steady_states_and_r.main.body.getD i (.Pass ⟨0, 0, 0, 0⟩)
def d_is_whole : DD := ⟨"is_whole", top 6, ["value", "low", "high"], [], 3⟩
def d_is_tuple_of : DD := ⟨"is_tuple_of", top 7, ["value", "low", "high"], [], 3⟩
def d_fits_rule : DD := ⟨"fits_rule", top 16, ["value"], [], 1⟩
def d_need_rule : DD := ⟨"need_rule", top 17, ["rule"], [], 1⟩
def d_fits_state : DD := ⟨"fits_state", top 18, ["rule", "value", "tries", "row", "own"], [], 2⟩
def d_need_state : DD := ⟨"need_state", top 19, ["rule", "state"], [], 2⟩
def d_need_fresh : DD := ⟨"need_fresh", top 20, ["fresh"], [], 1⟩
def d_done_in : DD := ⟨"done_in", top 21, ["rule", "calls", "over"], [], 2⟩
def d_left_in : DD := ⟨"left_in", top 22, ["rule", "counts", "rest", "found", "line", "at", "done"], [], 2⟩
def d_behind : DD := ⟨"behind", top 23, ["rule", "state", "fresh", "counts", "left"], [], 3⟩
def d_counts_for : DD := ⟨"counts_for", top 24, ["rule", "fresh", "calls", "found", "rest", "done"], [], 3⟩
def d_steady_in : DD := ⟨"steady_in", top 25, ["rule", "fresh", "found", "calls", "counts"], [], 2⟩
def d_storm_tick : DD := ⟨"storm_tick", top 26, ["rule", "state", "fresh"], [], 3⟩
def d_steady_states : DD := ⟨"steady_states", top 27, ["rule", "fresh", "counts"], [], 2⟩
def d_storm_round : DD := ⟨"storm_round", top 28, ["rule", "state", "fresh", "seen", "line"], [], 3⟩
def d__law_cup : DD := ⟨"_law_cup", top 30, ["script", "cell"], [], 1⟩
def d__law_roll : DD := ⟨"_law_roll", top 31, ["cup", "many", "found", "deep"], [0], 2⟩
def d__law_some : DD := ⟨"_law_some", top 32, ["cup", "things"], [0], 2⟩
def d__law_same : DD := ⟨"_law_same", top 33, ["told", "due", "at"], [], 2⟩
def d__law_rule : DD := ⟨"_law_rule", top 34, ["cup", "tries", "rest"], [0], 3⟩
def d__law_done : DD := ⟨"_law_done", top 35, ["rule", "calls", "over", "less", "turn"], [], 2⟩
def d__law_tick : DD := ⟨"_law_tick", top 36, ["rule", "state", "fresh", "counts", "left", "line", "tried", "own", "done"], [], 3⟩
def d__law_state : DD := ⟨"_law_state", top 37, ["cup", "rule", "most", "row", "own"], [0], 3⟩
def d__law_quiet : DD := ⟨"_law_quiet", top 38, ["rule"], [], 1⟩
def d__law_line : DD := ⟨"_law_line", top 39, ["rule", "state", "fresh", "found", "turn"], [], 3⟩
def d__law_rows : DD := ⟨"_law_rows", top 40, ["many", "most", "rows", "turn", "longer", "row", "own"], [], 2⟩
def d__law_right : DD := ⟨"_law_right", top 41, ["cup", "rule", "fresh", "stays", "row", "state", "told", "line", "at", "size"], [0], 1⟩
def d_law : DD := ⟨"law", top 42, ["script", "cup", "new", "old", "told", "turn"], [], 1⟩
def tab : Lw := { dds := [d_is_whole, d_is_tuple_of, d_fits_rule, d_need_rule, d_fits_state, d_need_state, d_need_fresh, d_done_in, d_left_in, d_behind, d_counts_for, d_steady_in, d_storm_tick, d_steady_states, d_storm_round, d__law_cup, d__law_roll, d__law_some, d__law_same, d__law_rule, d__law_done, d__law_tick, d__law_state, d__law_quiet, d__law_line, d__law_rows, d__law_right, d_law], consts := [("MOST", .int (1000)), ("DRAG", .int (100)), ("TRIES", .int (8)), ("REST", .int (16)), ("FRESH", .int (1000)), ("STATES", .int (2000)), ("ORDERS", .tup [.str "new", .str "old"])], excs := ["InvalidNumber", "InvalidStorm"], frees := ["isinstance", "int", "bool", "tuple", "len", "str", "all", "max", "min", "list", "range", "sum", "abs", "enumerate", "sorted"], fuel := 100000 }
theorem ok_is_whole : DOk d_is_whole := ⟨⟨by rfl, by rfl, by rfl, by decide +kernel, by rfl, by decide +kernel, by decide +kernel⟩, by decide +kernel, fun _ _ _ _ _ _ us hl => match us, hl with | [_, _, _], _ => by rfl⟩
theorem ok_is_tuple_of : DOk d_is_tuple_of := ⟨⟨by rfl, by rfl, by rfl, by decide +kernel, by rfl, by decide +kernel, by decide +kernel⟩, by decide +kernel, fun _ _ _ _ _ _ us hl => match us, hl with | [_, _, _], _ => by rfl⟩
theorem ok_fits_rule : DOk d_fits_rule := ⟨⟨by rfl, by rfl, by rfl, by decide +kernel, by rfl, by decide +kernel, by decide +kernel⟩, by decide +kernel, fun _ _ _ _ _ _ us hl => match us, hl with | [_], _ => by rfl⟩
theorem ok_need_rule : DOk d_need_rule := ⟨⟨by rfl, by rfl, by rfl, by decide +kernel, by rfl, by decide +kernel, by decide +kernel⟩, by decide +kernel, fun _ _ _ _ _ _ us hl => match us, hl with | [_], _ => by rfl⟩
theorem ok_fits_state : DOk d_fits_state := ⟨⟨by rfl, by rfl, by rfl, by decide +kernel, by rfl, by decide +kernel, by decide +kernel⟩, by decide +kernel, fun _ _ _ _ _ _ us hl => match us, hl with | [_, _], _ => by rfl⟩
theorem ok_need_state : DOk d_need_state := ⟨⟨by rfl, by rfl, by rfl, by decide +kernel, by rfl, by decide +kernel, by decide +kernel⟩, by decide +kernel, fun _ _ _ _ _ _ us hl => match us, hl with | [_, _], _ => by rfl⟩
theorem ok_need_fresh : DOk d_need_fresh := ⟨⟨by rfl, by rfl, by rfl, by decide +kernel, by rfl, by decide +kernel, by decide +kernel⟩, by decide +kernel, fun _ _ _ _ _ _ us hl => match us, hl with | [_], _ => by rfl⟩
theorem ok_done_in : DOk d_done_in := ⟨⟨by rfl, by rfl, by rfl, by decide +kernel, by rfl, by decide +kernel, by decide +kernel⟩, by decide +kernel, fun _ _ _ _ _ _ us hl => match us, hl with | [_, _], _ => by rfl⟩
theorem ok_left_in : DOk d_left_in := ⟨⟨by rfl, by rfl, by rfl, by decide +kernel, by rfl, by decide +kernel, by decide +kernel⟩, by decide +kernel, fun _ _ _ _ _ _ us hl => match us, hl with | [_, _], _ => by rfl⟩
theorem ok_behind : DOk d_behind := ⟨⟨by rfl, by rfl, by rfl, by decide +kernel, by rfl, by decide +kernel, by decide +kernel⟩, by decide +kernel, fun _ _ _ _ _ _ us hl => match us, hl with | [_, _, _], _ => by rfl⟩
theorem ok_counts_for : DOk d_counts_for := ⟨⟨by rfl, by rfl, by rfl, by decide +kernel, by rfl, by decide +kernel, by decide +kernel⟩, by decide +kernel, fun _ _ _ _ _ _ us hl => match us, hl with | [_, _, _], _ => by rfl⟩
theorem ok_steady_in : DOk d_steady_in := ⟨⟨by rfl, by rfl, by rfl, by decide +kernel, by rfl, by decide +kernel, by decide +kernel⟩, by decide +kernel, fun _ _ _ _ _ _ us hl => match us, hl with | [_, _], _ => by rfl⟩
theorem ok_storm_tick : DOk d_storm_tick := ⟨⟨by rfl, by rfl, by rfl, by decide +kernel, by rfl, by decide +kernel, by decide +kernel⟩, by decide +kernel, fun _ _ _ _ _ _ us hl => match us, hl with | [_, _, _], _ => by rfl⟩
theorem ok_steady_states : DOk d_steady_states := ⟨⟨by rfl, by rfl, by rfl, by decide +kernel, by rfl, by decide +kernel, by decide +kernel⟩, by decide +kernel, fun _ _ _ _ _ _ us hl => match us, hl with | [_, _], _ => by rfl⟩
theorem ok_storm_round : DOk d_storm_round := ⟨⟨by rfl, by rfl, by rfl, by decide +kernel, by rfl, by decide +kernel, by decide +kernel⟩, by decide +kernel, fun _ _ _ _ _ _ us hl => match us, hl with | [_, _, _], _ => by rfl⟩
theorem ok__law_cup : DOk d__law_cup := ⟨⟨by rfl, by rfl, by rfl, by decide +kernel, by rfl, by decide +kernel, by decide +kernel⟩, by decide +kernel, fun _ _ _ _ _ _ us hl => match us, hl with | [_], _ => by rfl⟩
theorem ok__law_roll : DOk d__law_roll := ⟨⟨by rfl, by rfl, by rfl, by decide +kernel, by rfl, by decide +kernel, by decide +kernel⟩, by decide +kernel, fun _ _ _ _ _ _ us hl => match us, hl with | [_, _], _ => by rfl⟩
theorem ok__law_some : DOk d__law_some := ⟨⟨by rfl, by rfl, by rfl, by decide +kernel, by rfl, by decide +kernel, by decide +kernel⟩, by decide +kernel, fun _ _ _ _ _ _ us hl => match us, hl with | [_, _], _ => by rfl⟩
theorem ok__law_same : DOk d__law_same := ⟨⟨by rfl, by rfl, by rfl, by decide +kernel, by rfl, by decide +kernel, by decide +kernel⟩, by decide +kernel, fun _ _ _ _ _ _ us hl => match us, hl with | [_, _], _ => by rfl⟩
theorem ok__law_rule : DOk d__law_rule := ⟨⟨by rfl, by rfl, by rfl, by decide +kernel, by rfl, by decide +kernel, by decide +kernel⟩, by decide +kernel, fun _ _ _ _ _ _ us hl => match us, hl with | [_, _, _], _ => by rfl⟩
theorem ok__law_done : DOk d__law_done := ⟨⟨by rfl, by rfl, by rfl, by decide +kernel, by rfl, by decide +kernel, by decide +kernel⟩, by decide +kernel, fun _ _ _ _ _ _ us hl => match us, hl with | [_, _], _ => by rfl⟩
theorem ok__law_tick : DOk d__law_tick := ⟨⟨by rfl, by rfl, by rfl, by decide +kernel, by rfl, by decide +kernel, by decide +kernel⟩, by decide +kernel, fun _ _ _ _ _ _ us hl => match us, hl with | [_, _, _], _ => by rfl⟩
theorem ok__law_state : DOk d__law_state := ⟨⟨by rfl, by rfl, by rfl, by decide +kernel, by rfl, by decide +kernel, by decide +kernel⟩, by decide +kernel, fun _ _ _ _ _ _ us hl => match us, hl with | [_, _, _], _ => by rfl⟩
theorem ok__law_quiet : DOk d__law_quiet := ⟨⟨by rfl, by rfl, by rfl, by decide +kernel, by rfl, by decide +kernel, by decide +kernel⟩, by decide +kernel, fun _ _ _ _ _ _ us hl => match us, hl with | [_], _ => by rfl⟩
theorem ok__law_line : DOk d__law_line := ⟨⟨by rfl, by rfl, by rfl, by decide +kernel, by rfl, by decide +kernel, by decide +kernel⟩, by decide +kernel, fun _ _ _ _ _ _ us hl => match us, hl with | [_, _, _], _ => by rfl⟩
theorem ok__law_rows : DOk d__law_rows := ⟨⟨by rfl, by rfl, by rfl, by decide +kernel, by rfl, by decide +kernel, by decide +kernel⟩, by decide +kernel, fun _ _ _ _ _ _ us hl => match us, hl with | [_, _], _ => by rfl⟩
theorem ok__law_right : DOk d__law_right := ⟨⟨by rfl, by rfl, by rfl, by decide +kernel, by rfl, by decide +kernel, by decide +kernel⟩, by decide +kernel, fun _ _ _ _ _ _ us hl => match us, hl with | [_], _ => by rfl⟩
theorem ok_law : DOk d_law := ⟨⟨by rfl, by rfl, by rfl, by decide +kernel, by rfl, by decide +kernel, by decide +kernel⟩, by decide +kernel, fun _ _ _ _ _ _ us hl => match us, hl with | [_], _ => by rfl⟩
theorem ok_all : ∀ d ∈ tab.dds, DOk d := by
  intro d hd
  simp only [tab, List.mem_cons, List.not_mem_nil, or_false] at hd
  rcases hd with rfl | rfl | rfl | rfl | rfl | rfl | rfl | rfl | rfl | rfl | rfl | rfl | rfl | rfl | rfl | rfl | rfl | rfl | rfl | rfl | rfl | rfl | rfl | rfl | rfl | rfl | rfl | rfl
  · exact ok_is_whole
  · exact ok_is_tuple_of
  · exact ok_fits_rule
  · exact ok_need_rule
  · exact ok_fits_state
  · exact ok_need_state
  · exact ok_need_fresh
  · exact ok_done_in
  · exact ok_left_in
  · exact ok_behind
  · exact ok_counts_for
  · exact ok_steady_in
  · exact ok_storm_tick
  · exact ok_steady_states
  · exact ok_storm_round
  · exact ok__law_cup
  · exact ok__law_roll
  · exact ok__law_some
  · exact ok__law_same
  · exact ok__law_rule
  · exact ok__law_done
  · exact ok__law_tick
  · exact ok__law_state
  · exact ok__law_quiet
  · exact ok__law_line
  · exact ok__law_rows
  · exact ok__law_right
  · exact ok_law
def b_is_whole (Φ : Str → List XV → FOut) : S := sRet (eAnd (eUn (isiV "int") (oVar 0)) (eAnd (eUn notV (oE (eUn (isiV "bool") (oVar 0)))) (eChain (cmpV .LtE) (cmpV .LtE) (oVar 1) (oVar 0) (oVar 2))))
theorem e_is_whole (Φ : Str → List XV → FOut) : tab.body d_is_whole Φ = b_is_whole Φ := by rfl
theorem r_is_whole (k : Nat) (xs : List XV) : tab.run (k + 1) "is_whole" xs = runBody { np := 3, nN := 3, io := [], body := b_is_whole (tab.run k) } xs := by
  show runBody (tab.dfr d_is_whole (tab.run k)) xs = _
  unfold Lw.dfr
  rw [e_is_whole]
  rfl
def b_is_tuple_of (Φ : Str → List XV → FOut) : S := sRet (eAnd (eUn (isiV "tuple") (oVar 0)) (eChain (cmpV .LtE) (cmpV .LtE) (oVar 1) (oE (eUn lenV (oVar 0))) (oVar 2)))
theorem e_is_tuple_of (Φ : Str → List XV → FOut) : tab.body d_is_tuple_of Φ = b_is_tuple_of Φ := by rfl
theorem r_is_tuple_of (k : Nat) (xs : List XV) : tab.run (k + 1) "is_tuple_of" xs = runBody { np := 3, nN := 3, io := [], body := b_is_tuple_of (tab.run k) } xs := by
  show runBody (tab.dfr d_is_tuple_of (tab.run k)) xs = _
  unfold Lw.dfr
  rw [e_is_tuple_of]
  rfl
def b_fits_rule (Φ : Str → List XV → FOut) : S := sSeq (sIf (Pi.tOr (Pi.tNot (tVal (eCall (Φ "is_tuple_of") [oPv (eVar 0), oPv (eC (.int (5))), oPv (eC (.int (5)))]))) (Pi.tOr (Pi.tNot (tVal (eCall (Φ "is_whole") [oPv (eBin ixV (oVar 0) (oE (eC (.int (0))))), oPv (eC (.int (0))), oPv (eC (.int (1000)))]))) (Pi.tNot (tVal (eCall (Φ "is_whole") [oPv (eBin ixV (oVar 0) (oE (eC (.int (1))))), oPv (eC (.int (0))), oPv (eC (.int (100)))]))))) (sRet (eC (.bl false))) (sNx))
    (sSeq (sIf (Pi.tOr (Pi.tNot (tVal (eCall (Φ "is_whole") [oPv (eBin ixV (oVar 0) (oE (eC (.int (2))))), oPv (eC (.int (1))), oPv (eC (.int (8)))]))) (Pi.tNot (tVal (eCall (Φ "is_whole") [oPv (eBin ixV (oVar 0) (oE (eC (.int (3))))), oPv (eC (.int (1))), oPv (eC (.int (16)))])))) (sRet (eC (.bl false))) (sNx))
    (sRet (eAnd (eUn (isiV "str") (oE (eBin ixV (oVar 0) (oE (eC (.int (4))))))) (eCmp (cmpV .In) (oE (eBin ixV (oVar 0) (oE (eC (.int (4)))))) (oE (eC (.tup [.str "new", .str "old"])))))))
theorem e_fits_rule (Φ : Str → List XV → FOut) : tab.body d_fits_rule Φ = b_fits_rule Φ := by rfl
theorem r_fits_rule (k : Nat) (xs : List XV) : tab.run (k + 1) "fits_rule" xs = runBody { np := 1, nN := 1, io := [], body := b_fits_rule (tab.run k) } xs := by
  show runBody (tab.dfr d_fits_rule (tab.run k)) xs = _
  unfold Lw.dfr
  rw [e_fits_rule]
  rfl
def b_need_rule (Φ : Str → List XV → FOut) : S := sIf (Pi.tNot (tVal (eCall (Φ "fits_rule") [oPv (eVar 0)]))) (sRaise "InvalidStorm") (sNx)
theorem e_need_rule (Φ : Str → List XV → FOut) : tab.body d_need_rule Φ = b_need_rule Φ := by rfl
theorem r_need_rule (k : Nat) (xs : List XV) : tab.run (k + 1) "need_rule" xs = runBody { np := 1, nN := 1, io := [], body := b_need_rule (tab.run k) } xs := by
  show runBody (tab.dfr d_need_rule (tab.run k)) xs = _
  unfold Lw.dfr
  rw [e_need_rule]
  rfl
def b_fits_state (Φ : Str → List XV → FOut) : S := sSeq (sAsg (.nm 2) (eBin (binV .Sub) (oE (eBin ixV (oVar 0) (oE (eC (.int (2)))))) (oE (eC (.int (1))))))
    (sSeq (sIf (Pi.tOr (Pi.tNot (tVal (eCall (Φ "is_tuple_of") [oPv (eVar 1), oPv (eBin ixV (oVar 0) (oE (eC (.int (3))))), oPv (eBin ixV (oVar 0) (oE (eC (.int (3)))))]))) (Pi.tNot (tVal (eUn allV (oE (eLc [3] (srE (eVar 1)) (.nm 3) (tYes) (eCall (Φ "is_tuple_of") [oPv (eVar 3), oPv (eVar 2), oPv (eVar 2)]))))))) (sRet (eC (.bl false))) (sNx))
    (sRet (eUn allV (oE (eLc2 [3, 4] [4] (srE (eVar 1)) (.nm 3) (tYes) (srE (eVar 3)) (.nm 4) (tYes) (eCall (Φ "is_whole") [oPv (eVar 4), oPv (eC (.int (0))), oPv (eC (.int (1000)))]))))))
theorem e_fits_state (Φ : Str → List XV → FOut) : tab.body d_fits_state Φ = b_fits_state Φ := by rfl
theorem r_fits_state (k : Nat) (xs : List XV) : tab.run (k + 1) "fits_state" xs = runBody { np := 2, nN := 5, io := [], body := b_fits_state (tab.run k) } xs := by
  show runBody (tab.dfr d_fits_state (tab.run k)) xs = _
  unfold Lw.dfr
  rw [e_fits_state]
  rfl
def b_need_state (Φ : Str → List XV → FOut) : S := sSeq (sExpr (eCall (Φ "need_rule") [oPv (eVar 0)]))
    (sIf (Pi.tNot (tVal (eCall (Φ "fits_state") [oPv (eVar 0), oPv (eVar 1)]))) (sRaise "InvalidStorm") (sNx))
theorem e_need_state (Φ : Str → List XV → FOut) : tab.body d_need_state Φ = b_need_state Φ := by rfl
theorem r_need_state (k : Nat) (xs : List XV) : tab.run (k + 1) "need_state" xs = runBody { np := 2, nN := 2, io := [], body := b_need_state (tab.run k) } xs := by
  show runBody (tab.dfr d_need_state (tab.run k)) xs = _
  unfold Lw.dfr
  rw [e_need_state]
  rfl
def b_need_fresh (Φ : Str → List XV → FOut) : S := sIf (Pi.tNot (tVal (eCall (Φ "is_whole") [oPv (eVar 0), oPv (eC (.int (0))), oPv (eC (.int (1000)))]))) (sRaise "InvalidNumber") (sNx)
theorem e_need_fresh (Φ : Str → List XV → FOut) : tab.body d_need_fresh Φ = b_need_fresh Φ := by rfl
theorem r_need_fresh (k : Nat) (xs : List XV) : tab.run (k + 1) "need_fresh" xs = runBody { np := 1, nN := 1, io := [], body := b_need_fresh (tab.run k) } xs := by
  show runBody (tab.dfr d_need_fresh (tab.run k)) xs = _
  unfold Lw.dfr
  rw [e_need_fresh]
  rfl
def b_done_in (Φ : Str → List XV → FOut) : S := sSeq (sAsg (.nm 2) (eBin max2V (oE (eC (.int (0)))) (oE (eBin (binV .Sub) (oVar 1) (oE (eBin ixV (oVar 0) (oE (eC (.int (0))))))))))
    (sRet (eBin max2V (oE (eC (.int (0)))) (oE (eBin (binV .Sub) (oE (eBin min2V (oVar 1) (oE (eBin ixV (oVar 0) (oE (eC (.int (0)))))))) (oE (eBin (binV .FloorDiv) (oE (eBin (binV .Add) (oE (eBin (binV .Mult) (oVar 2) (oE (eBin ixV (oVar 0) (oE (eC (.int (1)))))))) (oE (eC (.int (9)))))) (oE (eC (.int (10))))))))))
theorem e_done_in (Φ : Str → List XV → FOut) : tab.body d_done_in Φ = b_done_in Φ := by rfl
theorem r_done_in (k : Nat) (xs : List XV) : tab.run (k + 1) "done_in" xs = runBody { np := 2, nN := 3, io := [], body := b_done_in (tab.run k) } xs := by
  show runBody (tab.dfr d_done_in (tab.run k)) xs = _
  unfold Lw.dfr
  rw [e_done_in]
  rfl
def b_left_in (Φ : Str → List XV → FOut) : S := sSeq (sPar [.nm 2, .nm 3] [eCall (Φ "done_in") [oPv (eVar 0), oPv (eUn sumV (oVar 1))], eUn listV (oVar 1)])
    (sSeq (sAsg (.nm 4) (eOfL (srR1 (oE (eUn lenV (oVar 1))))))
    (sSeq (sIf (tCmp (cmpV .Eq) (oE (eBin ixV (oVar 0) (oE (eC (.int (4)))))) (oE (eC (.str "old")))) (sAsg (.nm 4) (eUn revV (oVar 4))) (sNx))
    (sSeq (sFor (srE (eVar 4)) (.nm 5) (sSeq (sAsg (.nm 6) (eBin min2V (oVar 2) (oE (eBin ixV (oVar 1) (oVar 5)))))
    (sPar [.nm 2, .ix 3 (oVar 5)] [eBin (binV .Sub) (oVar 2) (oVar 6), eBin (binV .Sub) (oE (eBin ixV (oVar 1) (oVar 5))) (oVar 6)])))
    (sRetV 3))))
theorem e_left_in (Φ : Str → List XV → FOut) : tab.body d_left_in Φ = b_left_in Φ := by rfl
theorem r_left_in (k : Nat) (xs : List XV) : tab.run (k + 1) "left_in" xs = runBody { np := 2, nN := 7, io := [], body := b_left_in (tab.run k) } xs := by
  show runBody (tab.dfr d_left_in (tab.run k)) xs = _
  unfold Lw.dfr
  rw [e_left_in]
  rfl
def b_behind (Φ : Str → List XV → FOut) : S := sSeq (sAsg (.nm 3) (eBin (binV .Add) (oE (eLst [eVar 2])) (oE (eUn listV (oE (eBin ixV (oVar 1) (oE (eC (.int (0))))))))))
    (sSeq (sAsg (.nm 4) (eCall (Φ "left_in") [oPv (eVar 0), oPv (eVar 3)]))
    (sRet (eTup [eBin (binV .Sub) (oE (eUn sumV (oVar 3))) (oE (eUn sumV (oVar 4))), eBin ixV (oVar 4) (oE (eUn negV (oE (eC (.int (1)))))), eBin (binV .Add) (oE (eSl (oVar 1) (poI (oE (eC (.int (1))))) (poN))) (oE (eTup [eUn tupleV (oE (eSl (oVar 4) (poN) (poI (oE (eUn negV (oE (eC (.int (1)))))))))]))])))
theorem e_behind (Φ : Str → List XV → FOut) : tab.body d_behind Φ = b_behind Φ := by rfl
theorem r_behind (k : Nat) (xs : List XV) : tab.run (k + 1) "behind" xs = runBody { np := 3, nN := 5, io := [], body := b_behind (tab.run k) } xs := by
  show runBody (tab.dfr d_behind (tab.run k)) xs = _
  unfold Lw.dfr
  rw [e_behind]
  rfl
def counts_for_W1t (Φ : Str → List XV → FOut) : T := tCmp (cmpV .Lt) (oE (eUn lenV (oVar 3))) (oE (eBin ixV (oVar 0) (oE (eC (.int (2))))))
def counts_for_W1 (Φ : Str → List XV → FOut) : S := sIf (tCmp (cmpV .Eq) (oE (eBin ixV (oVar 0) (oE (eC (.int (4)))))) (oE (eC (.str "new")))) (sSeq (sAsg (.nm 5) (eBin min2V (oVar 4) (oE (eBin ixV (oVar 3) (oE (eUn negV (oE (eC (.int (1))))))))))
    (sSeq (sAsg (.nm 4) (eBin (binV .Sub) (oVar 4) (oVar 5)))
    (sApp 3 (eBin (binV .Sub) (oE (eBin ixV (oVar 3) (oE (eUn negV (oE (eC (.int (1)))))))) (oVar 5))))) (sApp 3 (eBin min2V (oVar 1) (oE (eBin max2V (oE (eC (.int (0)))) (oE (eBin (binV .Sub) (oVar 2) (oE (eUn sumV (oVar 3)))))))))
def b_counts_for (Φ : Str → List XV → FOut) : S := sSeq (sPar [.nm 3, .nm 4] [eLst [eVar 1], eCall (Φ "done_in") [oPv (eVar 0), oPv (eVar 2)]])
    (sSeq ((fun ρ => whl (counts_for_W1t Φ) (counts_for_W1 Φ) 100000 ρ))
    (sRetV 3))
theorem e_counts_for (Φ : Str → List XV → FOut) : tab.body d_counts_for Φ = b_counts_for Φ := by rfl
theorem r_counts_for (k : Nat) (xs : List XV) : tab.run (k + 1) "counts_for" xs = runBody { np := 3, nN := 6, io := [], body := b_counts_for (tab.run k) } xs := by
  show runBody (tab.dfr d_counts_for (tab.run k)) xs = _
  unfold Lw.dfr
  rw [e_counts_for]
  rfl
def steady_in_L1 (Φ : Str → List XV → FOut) : S := sSeq (sAsg (.nm 4) (eCall (Φ "counts_for") [oPv (eVar 0), oPv (eVar 1), oPv (eVar 3)]))
    (sIf (Pi.tAnd (tCmp (cmpV .Eq) (oE (eUn sumV (oVar 4))) (oVar 3)) (tCmp (cmpV .Eq) (oE (eSl (oE (eCall (Φ "left_in") [oPv (eVar 0), oPv (eVar 4)])) (poN) (poI (oE (eUn negV (oE (eC (.int (1))))))))) (oE (eSl (oVar 4) (poI (oE (eC (.int (1))))) (poN))))) (sApp 2 (eUn tupleV (oVar 4))) (sNx))
def b_steady_in (Φ : Str → List XV → FOut) : S := sSeq (sAsg (.nm 2) (eLst []))
    (sSeq (sFor (srR2 (oVar 1) (oE (eBin (binV .Add) (oE (eBin (binV .Mult) (oVar 1) (oE (eBin ixV (oVar 0) (oE (eC (.int (2)))))))) (oE (eC (.int (1))))))) (.nm 3) (steady_in_L1 Φ))
    (sRetV 2))
theorem e_steady_in (Φ : Str → List XV → FOut) : tab.body d_steady_in Φ = b_steady_in Φ := by rfl
theorem r_steady_in (k : Nat) (xs : List XV) : tab.run (k + 1) "steady_in" xs = runBody { np := 2, nN := 5, io := [], body := b_steady_in (tab.run k) } xs := by
  show runBody (tab.dfr d_steady_in (tab.run k)) xs = _
  unfold Lw.dfr
  rw [e_steady_in]
  rfl
def b_storm_tick (Φ : Str → List XV → FOut) : S := sSeq (sExpr (eCall (Φ "need_state") [oPv (eVar 0), oPv (eVar 1)]))
    (sSeq (sExpr (eCall (Φ "need_fresh") [oPv (eVar 2)]))
    (sRet (eCall (Φ "behind") [oPv (eVar 0), oPv (eVar 1), oPv (eVar 2)])))
theorem e_storm_tick (Φ : Str → List XV → FOut) : tab.body d_storm_tick Φ = b_storm_tick Φ := by rfl
theorem r_storm_tick (k : Nat) (xs : List XV) : tab.run (k + 1) "storm_tick" xs = runBody { np := 3, nN := 3, io := [], body := b_storm_tick (tab.run k) } xs := by
  show runBody (tab.dfr d_storm_tick (tab.run k)) xs = _
  unfold Lw.dfr
  rw [e_storm_tick]
  rfl
def steady_states_C1 (Φ : Str → List XV → FOut) : E := eBin (binV .Mult) (oE (eTup [eSl (oVar 2) (poI (oE (eC (.int (1))))) (poN)])) (oE (eBin ixV (oVar 0) (oE (eC (.int (3))))))
def b_steady_states (Φ : Str → List XV → FOut) : S := sSeq (sExpr (eCall (Φ "need_rule") [oPv (eVar 0)]))
    (sSeq (sExpr (eCall (Φ "need_fresh") [oPv (eVar 1)]))
    (sRet (eUn tupleV (oE (eLc [2] (srE (eCall (Φ "steady_in") [oPv (eVar 0), oPv (eVar 1)])) (.nm 2) (tYes) (steady_states_C1 Φ))))))
theorem e_steady_states (Φ : Str → List XV → FOut) : tab.body d_steady_states Φ = b_steady_states Φ := by rfl
theorem r_steady_states (k : Nat) (xs : List XV) : tab.run (k + 1) "steady_states" xs = runBody { np := 2, nN := 3, io := [], body := b_steady_states (tab.run k) } xs := by
  show runBody (tab.dfr d_steady_states (tab.run k)) xs = _
  unfold Lw.dfr
  rw [e_steady_states]
  rfl
def storm_round_W1t (Φ : Str → List XV → FOut) : T := tCmp (cmpV .NotIn) (oVar 1) (oVar 3)
def storm_round_W1 (Φ : Str → List XV → FOut) : S := sSeq (sIf (tCmp (cmpV .Eq) (oVar 4) (oE (eC (.int (2000))))) (sBad) (sNx))
    (sSeq (sStI 3 (oVar 1) (eVar 4))
    (sPar [.nm 1, .nm 4] [eBin ixV (oE (eCall (Φ "behind") [oPv (eVar 0), oPv (eVar 1), oPv (eVar 2)])) (oE (eC (.int (2)))), eBin (binV .Add) (oVar 4) (oE (eC (.int (1))))]))
def b_storm_round (Φ : Str → List XV → FOut) : S := sSeq (sExpr (eCall (Φ "need_state") [oPv (eVar 0), oPv (eVar 1)]))
    (sSeq (sExpr (eCall (Φ "need_fresh") [oPv (eVar 2)]))
    (sSeq (sPar [.nm 3, .nm 4] [eDic0, eC (.int (0))])
    (sSeq ((fun ρ => whl (storm_round_W1t Φ) (storm_round_W1 Φ) 100000 ρ))
    (sRet (eTup [eBin ixV (oVar 3) (oVar 1), eBin (binV .Sub) (oVar 4) (oE (eBin ixV (oVar 3) (oVar 1)))])))))
theorem e_storm_round (Φ : Str → List XV → FOut) : tab.body d_storm_round Φ = b_storm_round Φ := by rfl
theorem r_storm_round (k : Nat) (xs : List XV) : tab.run (k + 1) "storm_round" xs = runBody { np := 3, nN := 5, io := [], body := b_storm_round (tab.run k) } xs := by
  show runBody (tab.dfr d_storm_round (tab.run k)) xs = _
  unfold Lw.dfr
  rw [e_storm_round]
  rfl
def b__law_cup (Φ : Str → List XV → FOut) : S := sSeq (sAsg (.nm 1) (eUn absV (oE (eBin ixV (oE (eBin (binV .Add) (oE (eUn listV (oVar 0))) (oE (eLst [eC (.int (0))])))) (oE (eC (.int (0))))))))
    (sRet (eLst [eIf (tCmp (cmpV .GtE) (oVar 1) (oE (eBin (binV .Pow) (oE (eC (.int (10)))) (oE (eC (.int (18))))))) (eBin (binV .FloorDiv) (oVar 1) (oE (eC (.int (83))))) (eC (.int (0))), eBin (binV .Add) (oE (eBin (binV .Mod) (oE (eUn intV (oE (eBin (binV .Add) (oE (eBin (binV .Mult) (oVar 1) (oE (eC (.int (317)))))) (oE (eC (.int (4027)))))))) (oE (eC (.int (2077496441)))))) (oE (eC (.int (167))))]))
theorem e__law_cup (Φ : Str → List XV → FOut) : tab.body d__law_cup Φ = b__law_cup Φ := by rfl
theorem r__law_cup (k : Nat) (xs : List XV) : tab.run (k + 1) "_law_cup" xs = runBody { np := 1, nN := 2, io := [], body := b__law_cup (tab.run k) } xs := by
  show runBody (tab.dfr d__law_cup (tab.run k)) xs = _
  unfold Lw.dfr
  rw [e__law_cup]
  rfl
def b__law_roll (Φ : Str → List XV → FOut) : S := sSeq (sIf (tCmp (cmpV .Gt) (oE (eBin ixV (oVar 0) (oE (eC (.int (0)))))) (oE (eC (.int (0))))) (sSeq (sAsg (.nm 2) (eBin (binV .Mod) (oE (eUn intV (oE (eBin ixV (oVar 0) (oE (eC (.int (0)))))))) (oVar 1)))
    (sSeq (sStI 0 (oE (eC (.int (0)))) (eBin (binV .FloorDiv) (oE (eBin ixV (oVar 0) (oE (eC (.int (0)))))) (oVar 1)))
    (sRetV 2))) (sNx))
    (sSeq (sStI 0 (oE (eC (.int (1)))) (eBin (binV .Mod) (oE (eUn intV (oE (eBin (binV .Add) (oE (eBin (binV .Mult) (oE (eBin ixV (oVar 0) (oE (eC (.int (1)))))) (oE (eC (.int (30893)))))) (oE (eC (.int (7883)))))))) (oE (eC (.int (2147483399))))))
    (sSeq (sAsg (.nm 3) (eBin (binV .Mod) (oE (eUn intV (oE (eBin (binV .Mult) (oE (eBin ixV (oVar 0) (oE (eC (.int (1)))))) (oE (eBin (binV .Add) (oE (eBin ixV (oVar 0) (oE (eC (.int (1)))))) (oE (eC (.int (239)))))))))) (oE (eC (.int (2147483563))))))
    (sRet (eBin (binV .Mod) (oE (eUn intV (oE (eBin (binV .FloorDiv) (oVar 3) (oE (eC (.int (823)))))))) (oVar 1)))))
theorem e__law_roll (Φ : Str → List XV → FOut) : tab.body d__law_roll Φ = b__law_roll Φ := by rfl
theorem r__law_roll (k : Nat) (xs : List XV) : tab.run (k + 1) "_law_roll" xs = runBody { np := 2, nN := 4, io := [0], body := b__law_roll (tab.run k) } xs := by
  show runBody (tab.dfr d__law_roll (tab.run k)) xs = _
  unfold Lw.dfr
  rw [e__law_roll]
  rfl
def b__law_some (Φ : Str → List XV → FOut) : S := sRet (eBin ixV (oVar 1) (oE (eCall (Φ "_law_roll") [oVar 0, oPv (eUn lenV (oVar 1))])))
theorem e__law_some (Φ : Str → List XV → FOut) : tab.body d__law_some Φ = b__law_some Φ := by rfl
theorem r__law_some (k : Nat) (xs : List XV) : tab.run (k + 1) "_law_some" xs = runBody { np := 2, nN := 2, io := [0], body := b__law_some (tab.run k) } xs := by
  show runBody (tab.dfr d__law_some (tab.run k)) xs = _
  unfold Lw.dfr
  rw [e__law_some]
  rfl
def _law_same_C1 (Φ : Str → List XV → FOut) : E := eCall (Φ "_law_same") [oPv (eBin ixV (oVar 0) (oVar 2)), oPv (eBin ixV (oVar 1) (oVar 2))]
def b__law_same (Φ : Str → List XV → FOut) : S := sSeq (sIf (tVal (eUn (isiV "tuple") (oVar 1))) (sSeq (sIf (Pi.tOr (Pi.tNot (tVal (eUn (isiV "tuple") (oVar 0)))) (tCmp (cmpV .NotEq) (oE (eUn lenV (oVar 0))) (oE (eUn lenV (oVar 1))))) (sRet (eC (.bl false))) (sNx))
    (sRet (eUn allV (oE (eLc [2] (srR1 (oE (eUn lenV (oVar 1)))) (.nm 2) (tYes) (_law_same_C1 Φ)))))) (sNx))
    (sSeq (sIf (tCmp (cmpV .Is) (oVar 1) (oE (eC (.non)))) (sRet (eCmp (cmpV .Is) (oVar 0) (oE (eC (.non))))) (sNx))
    (sSeq (sIf (tVal (eUn (isiV "bool") (oVar 1))) (sRet (eIf (tVal (eVar 1)) (eCmp (cmpV .Is) (oVar 0) (oE (eC (.bl true)))) (eCmp (cmpV .Is) (oVar 0) (oE (eC (.bl false)))))) (sNx))
    (sSeq (sIf (tVal (eUn (isiV "int") (oVar 1))) (sRet (eAnd (eUn (isiV "int") (oVar 0)) (eAnd (eUn notV (oE (eUn (isiV "bool") (oVar 0)))) (eCmp (cmpV .Eq) (oE (eUn intV (oVar 0))) (oVar 1))))) (sNx))
    (sRet (eAnd (eUn (isiV "str") (oVar 0)) (eCmp (cmpV .Eq) (oE (eUn strV (oVar 0))) (oVar 1)))))))
theorem e__law_same (Φ : Str → List XV → FOut) : tab.body d__law_same Φ = b__law_same Φ := by rfl
theorem r__law_same (k : Nat) (xs : List XV) : tab.run (k + 1) "_law_same" xs = runBody { np := 2, nN := 3, io := [], body := b__law_same (tab.run k) } xs := by
  show runBody (tab.dfr d__law_same (tab.run k)) xs = _
  unfold Lw.dfr
  rw [e__law_same]
  rfl
def b__law_rule (Φ : Str → List XV → FOut) : S := sRet (eTup [eCall (Φ "_law_roll") [oVar 0, oPv (eC (.int (9)))], eCall (Φ "_law_some") [oVar 0, oPv (eLst [eC (.int (0)), eC (.int (10)), eCall (Φ "_law_roll") [oVar 0, oPv (eC (.int (25)))]])], eBin (binV .Add) (oE (eC (.int (1)))) (oE (eCall (Φ "_law_roll") [oVar 0, oPv (eVar 1)])), eBin (binV .Add) (oE (eC (.int (1)))) (oE (eCall (Φ "_law_roll") [oVar 0, oPv (eVar 2)])), eCall (Φ "_law_some") [oVar 0, oPv (eLst [eC (.str "new"), eC (.str "old")])]])
theorem e__law_rule (Φ : Str → List XV → FOut) : tab.body d__law_rule Φ = b__law_rule Φ := by rfl
theorem r__law_rule (k : Nat) (xs : List XV) : tab.run (k + 1) "_law_rule" xs = runBody { np := 3, nN := 3, io := [0], body := b__law_rule (tab.run k) } xs := by
  show runBody (tab.dfr d__law_rule (tab.run k)) xs = _
  unfold Lw.dfr
  rw [e__law_rule]
  rfl
def b__law_done (Φ : Str → List XV → FOut) : S := sSeq (sAsg (.nm 2) (eBin (binV .Sub) (oVar 1) (oE (eBin ixV (oVar 0) (oE (eC (.int (0))))))))
    (sSeq (sIf (tCmp (cmpV .LtE) (oVar 2) (oE (eC (.int (0))))) (sRetV 1) (sNx))
    (sSeq (sAsg (.nm 3) (eC (.int (0))))
    (sSeq (sFor (srR1 (oE (eBin (binV .Mult) (oVar 2) (oE (eBin ixV (oVar 0) (oE (eC (.int (1))))))))) (.nm 4) (sAsg (.nm 3) (eBin (binV .Add) (oVar 3) (oE (eIf (tCmp (cmpV .Eq) (oE (eBin (binV .Mod) (oE (eUn intV (oVar 4))) (oE (eC (.int (10)))))) (oE (eC (.int (0))))) (eC (.int (1))) (eC (.int (0))))))))
    (sRet (eBin max2V (oE (eC (.int (0)))) (oE (eBin (binV .Sub) (oE (eBin ixV (oVar 0) (oE (eC (.int (0)))))) (oVar 3))))))))
theorem e__law_done (Φ : Str → List XV → FOut) : tab.body d__law_done Φ = b__law_done Φ := by rfl
theorem r__law_done (k : Nat) (xs : List XV) : tab.run (k + 1) "_law_done" xs = runBody { np := 2, nN := 5, io := [], body := b__law_done (tab.run k) } xs := by
  show runBody (tab.dfr d__law_done (tab.run k)) xs = _
  unfold Lw.dfr
  rw [e__law_done]
  rfl
def b__law_tick (Φ : Str → List XV → FOut) : S := sSeq (sPar [.nm 3, .nm 4] [eBin (binV .Add) (oE (eTup [eVar 2])) (oE (eBin ixV (oVar 1) (oE (eC (.int (0)))))), eTup []])
    (sSeq (sAsg (.nm 5) (eLst []))
    (sSeq (sFor (srEnum (eVar 3)) (.tp [.nm 6, .nm 7]) (sAsg (.nm 5) (eBin (binV .Add) (oVar 5) (oE (eBin (binV .Mult) (oE (eLst [eVar 6])) (oVar 7))))))
    (sSeq (sAsg (.nm 5) (eIf (tCmp (cmpV .Eq) (oE (eBin ixV (oVar 0) (oE (eC (.int (4)))))) (oE (eC (.str "new")))) (eVar 5) (eUn revV (oVar 5))))
    (sSeq (sAsg (.nm 8) (eCall (Φ "_law_done") [oPv (eVar 0), oPv (eUn lenV (oVar 5))]))
    (sSeq (sFor (srR1 (oE (eUn lenV (oVar 3)))) (.nm 6) (sAsg (.nm 4) (eBin (binV .Add) (oVar 4) (oE (eTup [eUn lenV (oE (eLc [7] (srE (eSl (oVar 5) (poI (oVar 8)) (poN))) (.nm 7) (tCmp (cmpV .Eq) (oVar 7) (oVar 6)) (eVar 7)))])))))
    (sRet (eTup [eVar 8, eBin ixV (oVar 4) (oE (eUn negV (oE (eC (.int (1)))))), eBin (binV .Add) (oE (eSl (oVar 1) (poI (oE (eC (.int (1))))) (poN))) (oE (eTup [eSl (oVar 4) (poN) (poI (oE (eUn negV (oE (eC (.int (1)))))))]))])))))))
theorem e__law_tick (Φ : Str → List XV → FOut) : tab.body d__law_tick Φ = b__law_tick Φ := by rfl
theorem r__law_tick (k : Nat) (xs : List XV) : tab.run (k + 1) "_law_tick" xs = runBody { np := 3, nN := 9, io := [], body := b__law_tick (tab.run k) } xs := by
  show runBody (tab.dfr d__law_tick (tab.run k)) xs = _
  unfold Lw.dfr
  rw [e__law_tick]
  rfl
def b__law_state (Φ : Str → List XV → FOut) : S := sRet (eUn tupleV (oE (eLc [3] (srR1 (oE (eBin ixV (oVar 1) (oE (eC (.int (3))))))) (.nm 3) (tYes) (eUn tupleV (oE (eLc [4] (srR1 (oE (eBin (binV .Sub) (oE (eBin ixV (oVar 1) (oE (eC (.int (2)))))) (oE (eC (.int (1))))))) (.nm 4) (tYes) (eCall (Φ "_law_roll") [oVar 0, oPv (eVar 2)])))))))
theorem e__law_state (Φ : Str → List XV → FOut) : tab.body d__law_state Φ = b__law_state Φ := by rfl
theorem r__law_state (k : Nat) (xs : List XV) : tab.run (k + 1) "_law_state" xs = runBody { np := 3, nN := 5, io := [0], body := b__law_state (tab.run k) } xs := by
  show runBody (tab.dfr d__law_state (tab.run k)) xs = _
  unfold Lw.dfr
  rw [e__law_state]
  rfl
def b__law_quiet (Φ : Str → List XV → FOut) : S := sRet (eBin (binV .Mult) (oE (eTup [eBin (binV .Mult) (oE (eTup [eC (.int (0))])) (oE (eBin (binV .Sub) (oE (eBin ixV (oVar 0) (oE (eC (.int (2)))))) (oE (eC (.int (1))))))])) (oE (eBin ixV (oVar 0) (oE (eC (.int (3)))))))
theorem e__law_quiet (Φ : Str → List XV → FOut) : tab.body d__law_quiet Φ = b__law_quiet Φ := by rfl
theorem r__law_quiet (k : Nat) (xs : List XV) : tab.run (k + 1) "_law_quiet" xs = runBody { np := 1, nN := 1, io := [], body := b__law_quiet (tab.run k) } xs := by
  show runBody (tab.dfr d__law_quiet (tab.run k)) xs = _
  unfold Lw.dfr
  rw [e__law_quiet]
  rfl
def _law_line_L1 (Φ : Str → List XV → FOut) : S := sSeq (sIf (tCmp (cmpV .In) (oVar 1) (oVar 3)) (sRet (eTup [eVar 3, eMe isLstV indexV (oVar 3) (oVar 1)])) (sNx))
    (sPar [.nm 3, .nm 1] [eBin (binV .Add) (oVar 3) (oE (eLst [eVar 1])), eBin ixV (oE (eCall (Φ "_law_tick") [oPv (eVar 0), oPv (eVar 1), oPv (eVar 2)])) (oE (eC (.int (2))))])
def b__law_line (Φ : Str → List XV → FOut) : S := sSeq (sAsg (.nm 3) (eLst []))
    (sSeq (sFor (srR1 (oE (eC (.int (400))))) (.nm 4) (_law_line_L1 Φ))
    (sRet (eTup [eVar 3, eC (.non)])))
theorem e__law_line (Φ : Str → List XV → FOut) : tab.body d__law_line Φ = b__law_line Φ := by rfl
theorem r__law_line (k : Nat) (xs : List XV) : tab.run (k + 1) "_law_line" xs = runBody { np := 3, nN := 5, io := [], body := b__law_line (tab.run k) } xs := by
  show runBody (tab.dfr d__law_line (tab.run k)) xs = _
  unfold Lw.dfr
  rw [e__law_line]
  rfl
def _law_rows_C1 (Φ : Str → List XV → FOut) : E := eBin (binV .Add) (oVar 5) (oE (eTup [eVar 6]))
def _law_rows_L1 (Φ : Str → List XV → FOut) : S := sAsg (.nm 4) (eBin (binV .Add) (oVar 4) (oE (eLc [6] (srR1 (oE (eBin (binV .Add) (oVar 1) (oE (eC (.int (1))))))) (.nm 6) (tYes) (_law_rows_C1 Φ))))
def _law_rows_L2 (Φ : Str → List XV → FOut) : S := sSeq (sAsg (.nm 4) (eLst []))
    (sSeq (sFor (srE (eVar 2)) (.nm 5) (_law_rows_L1 Φ))
    (sAsg (.nm 2) (eVar 4)))
def b__law_rows (Φ : Str → List XV → FOut) : S := sSeq (sAsg (.nm 2) (eLst [eTup []]))
    (sSeq (sFor (srR1 (oVar 0)) (.nm 3) (_law_rows_L2 Φ))
    (sRetV 2))
theorem e__law_rows (Φ : Str → List XV → FOut) : tab.body d__law_rows Φ = b__law_rows Φ := by rfl
theorem r__law_rows (k : Nat) (xs : List XV) : tab.run (k + 1) "_law_rows" xs = runBody { np := 2, nN := 7, io := [], body := b__law_rows (tab.run k) } xs := by
  show runBody (tab.dfr d__law_rows (tab.run k)) xs = _
  unfold Lw.dfr
  rw [e__law_rows]
  rfl
def _law_right_L1 (Φ : Str → List XV → FOut) : S := sSeq (sAsg (.nm 5) (eBin (binV .Mult) (oE (eTup [eVar 4])) (oE (eBin ixV (oVar 1) (oE (eC (.int (3))))))))
    (sAsg (.nm 3) (eBin (binV .Add) (oVar 3) (oE (eIf (tCmp (cmpV .Eq) (oE (eBin ixV (oE (eCall (Φ "_law_tick") [oPv (eVar 1), oPv (eVar 5), oPv (eVar 2)])) (oE (eC (.int (2)))))) (oVar 5)) (eLst [eTup [eUn sumV (oVar 4), eVar 5]]) (eLst [])))))
def _law_right_C1 (Φ : Str → List XV → FOut) : E := eVar 5
def _law_right_L2 (Φ : Str → List XV → FOut) : S := sSeq (sAsg (.tp [.nm 7, .nm 8]) (eCall (Φ "_law_line") [oPv (eVar 1), oPv (eVar 5), oPv (eVar 2)]))
    (sIf (Pi.tAnd (tCmp (cmpV .IsNot) (oVar 8) (oE (eC (.non)))) (Pi.tNot (tVal (eCall (Φ "_law_same") [oPv (eCall (Φ "storm_round") [oPv (eVar 1), oPv (eVar 5), oPv (eVar 2)]), oPv (eTup [eVar 8, eBin (binV .Sub) (oE (eUn lenV (oVar 7))) (oVar 8)])])))) (sRet (eC (.bl false))) (sNx))
def _law_right_C2 (Φ : Str → List XV → FOut) : E := eVar 5
def b__law_right (Φ : Str → List XV → FOut) : S := sSeq (sPar [.nm 1, .nm 2] [eCall (Φ "_law_rule") [oVar 0, oPv (eC (.int (3))), oPv (eC (.int (2)))], eCall (Φ "_law_roll") [oVar 0, oPv (eC (.int (8)))]])
    (sSeq (sAsg (.nm 3) (eLst []))
    (sSeq (sFor (srE (eCall (Φ "_law_rows") [oPv (eBin (binV .Sub) (oE (eBin ixV (oVar 1) (oE (eC (.int (2)))))) (oE (eC (.int (1))))), oPv (eVar 2)])) (.nm 4) (_law_right_L1 Φ))
    (sSeq (sAsg (.nm 6) (eCall (Φ "steady_states") [oPv (eVar 1), oPv (eVar 2)]))
    (sSeq (sIf (Pi.tNot (tVal (eCall (Φ "_law_same") [oPv (eVar 6), oPv (eUn tupleV (oE (eLc [9, 5] (srE (eUn sortV (oVar 3))) (.tp [.nm 9, .nm 5]) (tYes) (_law_right_C1 Φ))))]))) (sRet (eC (.bl false))) (sNx))
    (sSeq (sIf (tCmp (cmpV .NotEq) (oE (eCmp (cmpV .In) (oE (eCall (Φ "_law_quiet") [oPv (eVar 1)])) (oVar 6))) (oE (eOr (eCmp (cmpV .Eq) (oE (eCall (Φ "_law_done") [oPv (eVar 1), oPv (eVar 2)])) (oVar 2)) (eCmp (cmpV .Eq) (oE (eBin ixV (oVar 1) (oE (eC (.int (2)))))) (oE (eC (.int (1)))))))) (sRet (eC (.bl false))) (sNx))
    (sSeq (sFor (srE (eTup [eCall (Φ "_law_quiet") [oPv (eVar 1)], eCall (Φ "_law_state") [oVar 0, oPv (eVar 1), oPv (eC (.int (6)))]])) (.nm 5) (_law_right_L2 Φ))
    (sRet (eCmp (cmpV .Eq) (oE (eLc [5] (srE (eVar 6)) (.nm 5) (Pi.tOr (tCmp (cmpV .NotEq) (oE (eCall (Φ "storm_round") [oPv (eVar 1), oPv (eVar 5), oPv (eVar 2)])) (oE (eTup [eC (.int (0)), eC (.int (1))]))) (tCmp (cmpV .NotEq) (oE (eBin ixV (oE (eCall (Φ "storm_tick") [oPv (eVar 1), oPv (eVar 5), oPv (eVar 2)])) (oE (eC (.int (2)))))) (oVar 5))) (_law_right_C2 Φ))) (oE (eLst []))))))))))
theorem e__law_right (Φ : Str → List XV → FOut) : tab.body d__law_right Φ = b__law_right Φ := by rfl
theorem r__law_right (k : Nat) (xs : List XV) : tab.run (k + 1) "_law_right" xs = runBody { np := 1, nN := 10, io := [0], body := b__law_right (tab.run k) } xs := by
  show runBody (tab.dfr d__law_right (tab.run k)) xs = _
  unfold Lw.dfr
  rw [e__law_right]
  rfl
def law_L1 (Φ : Str → List XV → FOut) : S := sIf (Pi.tNot (tVal (eCall (Φ "_law_right") [oVar 1]))) (sRet (eC (.bl false))) (sNx)
def b_law (Φ : Str → List XV → FOut) : S := sSeq (sAsg (.nm 1) (eCall (Φ "_law_cup") [oPv (eVar 0)]))
    (sSeq (sPar [.nm 2, .nm 3] [eTup [eC (.int (10)), eC (.int (10)), eC (.int (3)), eC (.int (1)), eC (.str "new")], eTup [eC (.int (10)), eC (.int (10)), eC (.int (3)), eC (.int (1)), eC (.str "old")]])
    (sSeq (sAsg (.nm 4) (eTup [eCall (Φ "steady_states") [oPv (eVar 2), oPv (eC (.int (8)))], eCall (Φ "steady_states") [oPv (eVar 3), oPv (eC (.int (8)))], eCall (Φ "storm_round") [oPv (eVar 2), oPv (eTup [eTup [eC (.int (4)), eC (.int (0))]]), oPv (eC (.int (8)))], eCall (Φ "storm_round") [oPv (eVar 2), oPv (eTup [eTup [eC (.int (8)), eC (.int (8))]]), oPv (eC (.int (8)))], eCall (Φ "steady_states") [oPv (eTup [eC (.int (5)), eC (.int (0)), eC (.int (1)), eC (.int (2)), eC (.str "new")]), oPv (eC (.int (9)))], eCall (Φ "steady_states") [oPv (eVar 2), oPv (eC (.int (0)))]]))
    (sSeq (sIf (Pi.tNot (tVal (eCall (Φ "_law_same") [oPv (eVar 4), oPv (eTup [eTup [eTup [eTup [eC (.int (0)), eC (.int (0))]], eTup [eTup [eC (.int (4)), eC (.int (4))]], eTup [eTup [eC (.int (8)), eC (.int (8))]]], eTup [eTup [eTup [eC (.int (0)), eC (.int (0))]], eTup [eTup [eC (.int (4)), eC (.int (0))]], eTup [eTup [eC (.int (8)), eC (.int (8))]]], eTup [eC (.int (2)), eC (.int (1))], eTup [eC (.int (0)), eC (.int (1))], eTup [eTup [eTup [], eTup []]], eTup [eTup [eTup [eC (.int (0)), eC (.int (0))]]]])]))) (sRet (eC (.bl false))) (sNx))
    (sSeq (sAsg (.nm 4) (eTup [eCall (Φ "storm_round") [oPv (eTup [eC (.int (10)), eC (.int (10)), eC (.int (3)), eC (.int (2)), eC (.str "new")]), oPv (eTup [eTup [eC (.int (4)), eC (.int (4))], eTup [eC (.int (0)), eC (.int (0))]]), oPv (eC (.int (8)))], eCall (Φ "storm_round") [oPv (eTup [eC (.int (2)), eC (.int (20)), eC (.int (2)), eC (.int (1)), eC (.str "new")]), oPv (eTup [eTup [eC (.int (0))]]), oPv (eC (.int (3)))], eCall (Φ "steady_states") [oPv (eTup [eC (.int (2)), eC (.int (20)), eC (.int (2)), eC (.int (1)), eC (.str "new")]), oPv (eC (.int (3)))]]))
    (sSeq (sIf (Pi.tNot (tVal (eCall (Φ "_law_same") [oPv (eVar 4), oPv (eTup [eTup [eC (.int (0)), eC (.int (2))], eTup [eC (.int (1)), eC (.int (1))], eTup [eTup [eTup [eC (.int (3))]]]])]))) (sRet (eC (.bl false))) (sNx))
    (sSeq (sFor (srR1 (oE (eC (.int (10))))) (.nm 5) (law_L1 Φ))
    (sRet (eC (.bl true)))))))))
theorem e_law (Φ : Str → List XV → FOut) : tab.body d_law Φ = b_law Φ := by rfl
theorem r_law (k : Nat) (xs : List XV) : tab.run (k + 1) "law" xs = runBody { np := 1, nN := 6, io := [], body := b_law (tab.run k) } xs := by
  show runBody (tab.dfr d_law (tab.run k)) xs = _
  unfold Lw.dfr
  rw [e_law]
  rfl
end Law
namespace Law
open PySem Pi
abbrev Cup (c : List PV) : Prop := ∃ c0 c1 : Int, c = [.int c0, .int c1]
theorem run_roll (k : Nat) {c : List PV} (hc : Cup c) (m : Int) (hm : 0 < m) (hm2 : m < 1073741824) : ∃ v c', 0 ≤ v ∧ v < m ∧ Cup c' ∧
    tab.run (k + 1) "_law_roll" [.own (.lst c), .pv (.int m)] = .ok (.pv (.int v)) [some (.own (.lst c')), none] := by
  obtain ⟨c0, c1, rfl⟩ := hc
  have h0 : m ≠ 0 := by omega
  by_cases h : 0 < c0
  · have d1 : divOk m = true := by simp [divOk]; omega
    refine ⟨c0.fmod m, [.int (c0.fdiv m), .int c1], Int.fmod_nonneg_of_pos _ hm, Int.fmod_lt_of_pos _ hm, ⟨_, _, rfl⟩, ?_⟩
    rw [r__law_roll]
    simp [runBody, b__law_roll, ownsIn, outsOf, Pi.atI, Pi.ixN, cmpV, binV, bT, setIx, h, d1, h0, List.range_succ]
  · have d1 : mulOk c1 30893 = true := by simp [mulOk]
    have d3 : divOk 823 = true := by decide
    have h1 : 0 ≤ (c1 * 30893 + 7883).fmod 2147483399 := Int.fmod_nonneg_of_pos _ (by decide)
    have h2 : (c1 * 30893 + 7883).fmod 2147483399 < 2147483399 := Int.fmod_lt_of_pos _ (by decide)
    have d2 : mulOk ((c1 * 30893 + 7883).fmod 2147483399) ((c1 * 30893 + 7883).fmod 2147483399 + 239) = true := by
      simp [mulOk]; left; left; omega
    refine ⟨((((c1 * 30893 + 7883).fmod 2147483399 * ((c1 * 30893 + 7883).fmod 2147483399 + 239)).fmod 2147483563).fdiv 823).fmod m, [.int c0, .int ((c1 * 30893 + 7883).fmod 2147483399)], Int.fmod_nonneg_of_pos _ hm, Int.fmod_lt_of_pos _ hm, ⟨_, _, rfl⟩, ?_⟩
    rw [r__law_roll]
    simp [runBody, b__law_roll, ownsIn, outsOf, Pi.atI, Pi.ixN, cmpV, binV, bT, setIx, h, d1, d2, d3, h0, List.range_succ]
theorem run_cup (k : Nat) (ns : List Int) (hn : ns.length ≤ 63) : ∃ c, Cup c ∧ tab.run (k + 1) "_law_cup" [.pv (.scr ns)] = .ok (.own (.lst c)) [none] := by
  have hz : ns.length + 1 ≤ szL := by unfold szL; omega
  have d0 : divOk 83 = true := by decide
  have key : ∃ z, Pi.atI (ns.map PV.int ++ [PV.int 0]) 0 = some (.int z) := by
    cases ns with
    | nil => exact ⟨0, rfl⟩
    | cons n r => exact ⟨n, atI_zero⟩
  obtain ⟨z, hz2⟩ := key
  have d1 : ∀ j : Int, mulOk j 317 = true := fun j => by simp [mulOk]
  refine ⟨[.int (if (1000000000000000000 : Int) ≤ (if z < 0 then -z else z) then (if z < 0 then -z else z).fdiv 83 else 0), .int (((if z < 0 then -z else z) * 317 + 4027).fmod 2077496441 + 167)], ⟨_, _, rfl⟩, ?_⟩
  rw [r__law_cup]
  generalize hj : (if z < 0 then -z else z) = j
  have habs : absV (.int z) = some (.pv (.int j)) := by simp [hj]
  have d2 := d1 j
  have hp : powV (.int 10) (.int 18) = some (.pv (.int 1000000000000000000)) := by rfl
  by_cases hc : (1000000000000000000 : Int) ≤ j
  · have hl : leV (.int 1000000000000000000) (.int j) = some true := by simp only [leV, hc, decide_true]
    simp [-absV, -powV, -leV, runBody, b__law_cup, ownsIn, outsOf, cmpV, binV, bT, hz, hz2, List.range_succ, d2, d0, habs, hp, hl, hc]
  · have hl : leV (.int 1000000000000000000) (.int j) = some false := by simp only [leV, hc, decide_false]
    simp [-absV, -powV, -leV, runBody, b__law_cup, ownsIn, outsOf, cmpV, binV, bT, hz, hz2, List.range_succ, d2, d0, habs, hp, hl, hc]
theorem run_some (k : Nat) {c : List PV} (hc : Cup c) (xs : List PV) (h1 : 0 < xs.length) (h2 : xs.length < 1000) : ∃ v c', v ∈ xs ∧ Cup c' ∧
    tab.run (k + 2) "_law_some" [.own (.lst c), .pv (.lst xs)] = .ok (.pv v) [some (.own (.lst c')), none] := by
  obtain ⟨v, c', h3, h4, h5, h6⟩ := run_roll k hc xs.length (by omega) (by omega)
  obtain ⟨i, rfl⟩ := Int.eq_ofNat_of_zero_le h3
  have hi : i < xs.length := by omega
  refine ⟨xs[i], c', List.getElem_mem hi, h5, ?_⟩
  have e : Pi.atI xs (i : Nat) = some xs[i] := by
    simp [Pi.atI, Pi.ixN, hi]
  rw [r__law_some]
  simp [runBody, b__law_some, ownsIn, outsOf, h6, List.range_succ, e]
theorem run_whole (k : Nat) (i lo hi : Int) : tab.run (k + 1) "is_whole" [.pv (.int i), .pv (.int lo), .pv (.int hi)] = .ok (.pv (.bl (decide (lo ≤ i ∧ i ≤ hi)))) [none, none, none] := by
  rw [r_is_whole]
  by_cases h1 : lo ≤ i <;> by_cases h2 : i ≤ hi <;> simp [runBody, b_is_whole, ownsIn, outsOf, List.range_succ, cmpV, h1, h2]
theorem run_tup (k : Nat) (xs : List PV) (lo hi : Int) : tab.run (k + 1) "is_tuple_of" [.pv (.tup xs), .pv (.int lo), .pv (.int hi)] = .ok (.pv (.bl (decide (lo ≤ xs.length ∧ xs.length ≤ hi)))) [none, none, none] := by
  rw [r_is_tuple_of]
  by_cases h1 : lo ≤ xs.length <;> by_cases h2 : (xs.length : Int) ≤ hi <;> simp [runBody, b_is_tuple_of, ownsIn, outsOf, List.range_succ, cmpV, h1, h2]
theorem run_same : ∀ (n k : Nat) (p : PV), nice n p = true → tab.run (k + n + 1) "_law_same" [.pv p, .pv p] = .ok (.pv (.bl true)) [none, none] := by
  intro n
  induction n with
  | zero =>
    intro k p h
    rw [r__law_same]
    cases p with
    | int i => simp [-eqV, runBody, b__law_same, ownsIn, outsOf, List.range_succ, cmpV, binV, eqV_int]
    | bl b => cases b <;> simp [-eqV, runBody, b__law_same, ownsIn, outsOf, List.range_succ, cmpV, binV, eqV_int]
    | non => simp [-eqV, runBody, b__law_same, ownsIn, outsOf, List.range_succ, cmpV, binV, eqV_int]
    | _ => simp [nice] at h
  | succ n ih =>
    intro k p h
    cases p with
    | int i => rw [r__law_same]; simp [-eqV, runBody, b__law_same, ownsIn, outsOf, List.range_succ, cmpV, binV, eqV_int]
    | bl b => rw [r__law_same]; cases b <;> simp [-eqV, runBody, b__law_same, ownsIn, outsOf, List.range_succ, cmpV, binV, eqV_int]
    | non => rw [r__law_same]; simp [-eqV, runBody, b__law_same, ownsIn, outsOf, List.range_succ, cmpV, binV, eqV_int]
    | tup xs =>
      simp only [nice, Bool.and_eq_true, decide_eq_true_eq] at h
      obtain ⟨hl, hx⟩ := h
      have g : rgOk 0 xs.length = true := by simp [rgOk]; omega
      have c1 : eLc [2] (srR1 (oE (eUn lenV (oVar 1)))) (.nm 2) tYes (_law_same_C1 (tab.run (k + n + 1))) [some (.pv (.tup xs)), some (.pv (.tup xs)), none] =
          .ok (.own (.lst ((List.range xs.length).map fun _ => .bl true))) [some (.pv (.tup xs)), some (.pv (.tup xs)), none] := by
        refine eLc_m (enc := fun i : Nat => .int (i : Int)) (l := List.range xs.length) (by simp [g, rgL_nat]) rfl (fun i hi => ?_) (by rw [List.length_range]; unfold szL; omega)
        have hi : i < xs.length := by simpa using hi
        have e : Pi.atI xs (i : Nat) = some xs[i] := atI_nat (by simp [hi])
        have := ih k xs[i] (List.all_eq_true.mp hx _ (List.getElem_mem hi))
        simp [lcStep, _law_same_C1, bT, binV, e, this]
      have a1 : allV (.lst ((List.range xs.length).map fun _ => PV.bl true)) = some (.pv (.bl true)) := allV_true fun y hy => by
        obtain ⟨r, _, rfl⟩ := List.mem_map.mp hy; rfl
      rw [show k + (n + 1) + 1 = (k + n + 1) + 1 from by omega, r__law_same]
      simp [-allV, -eqV, -eLc, runBody, b__law_same, ownsIn, outsOf, List.range_succ, cmpV, binV, eqV_int, c1, a1]
    | _ => simp [nice] at h
/-- a row of statements that ends True -/
def endsTrue : Out Pi.Flow → Bool
  | .ok (.ret (.pv (.bl true))) _ => true
  | _ => false
theorem endsTrue_ok {o : Out Pi.Flow} (h : endsTrue o = true) : ∃ ρ', o = .ok (.ret (.pv (.bl true))) ρ' := by
  unfold endsTrue at h
  split at h
  · exact ⟨_, rfl⟩
  · cases h
end Law

/-! k80, plain: what is left of calls that are served in a row. -/
namespace Law
def lv : Nat → List Nat → List Nat
  | _, [] => []
  | d, c :: cs => (c - d) :: lv (d - c) cs
theorem lv_len : ∀ (d : Nat) (cs : List Nat), (lv d cs).length = cs.length
  | _, [] => rfl
  | d, c :: cs => by simp [lv, lv_len (d - c) cs]
theorem lv_sum : ∀ (d : Nat) (cs : List Nat), (lv d cs).sum + min d cs.sum = cs.sum
  | d, [] => by simp [lv]
  | d, c :: cs => by
    have := lv_sum (d - c) cs
    simp only [lv, List.sum_cons]
    omega
theorem lv_le : ∀ (d : Nat) (cs : List Nat) (b : Nat), (∀ c ∈ cs, c ≤ b) → ∀ x ∈ lv d cs, x ≤ b
  | _, [], _, _ => by simp [lv]
  | d, c :: cs, b, h => by
    intro x hx
    simp only [lv, List.mem_cons] at hx
    rcases hx with rfl | hx
    · have := h c (by simp); omega
    · exact lv_le (d - c) cs b (fun y hy => h y (by simp [hy])) x hx
/-- the row of the calls, each by its label -/
def row : List (Nat × Nat) → List Nat
  | [] => []
  | (l, c) :: r => List.replicate c l ++ row r
theorem row_append : ∀ (a b : List (Nat × Nat)), row (a ++ b) = row a ++ row b
  | [], b => rfl
  | (l, c) :: r, b => by simp [row, row_append r b]
theorem row_reverse : ∀ (a : List (Nat × Nat)), (row a).reverse = row a.reverse
  | [] => rfl
  | (l, c) :: r => by simp [row, row_append, row_reverse r]
theorem row_len : ∀ (a : List (Nat × Nat)), (row a).length = (a.map (·.2)).sum
  | [] => rfl
  | (l, c) :: r => by simp [row, row_len r]
theorem count_row_none : ∀ (a : List (Nat × Nat)) (x : Nat), x ∉ a.map (·.1) → (row a).count x = 0
  | [], x, _ => rfl
  | (l, c) :: r, x, h => by
    simp only [List.map_cons, List.mem_cons, not_or] at h
    rw [row, List.count_append, count_row_none r x h.2, List.count_replicate]
    simp [Ne.symm h.1]
theorem count_drop_none (a : List (Nat × Nat)) (d x : Nat) (h : x ∉ a.map (·.1)) : ((row a).drop d).count x = 0 := by
  have := count_row_none a x h
  have h2 : ((row a).drop d).count x ≤ (row a).count x := List.Sublist.count_le x (List.drop_sublist d _)
  omega
theorem count_left : ∀ (a : List (Nat × Nat)) (d : Nat), (a.map (·.1)).Nodup → ∀ (i : Nat) (l c : Nat), a[i]? = some (l, c) → ((row a).drop d).count l = (lv d (a.map (·.2))).getD i 0
  | [], d, _, i, l, c, h => by simp at h
  | (l0, c0) :: r, d, nd, i, l, c, h => by
    simp only [List.map_cons, List.nodup_cons] at nd
    have hd : (row ((l0, c0) :: r)).drop d = List.replicate (c0 - d) l0 ++ (row r).drop (d - c0) := by
      rw [row, List.drop_append]
      simp
    rw [hd, List.count_append, List.count_replicate]
    cases i with
    | zero =>
      simp at h
      obtain ⟨rfl, rfl⟩ := h
      rw [count_drop_none r (d - c0) l0 nd.1]
      simp [lv]
    | succ i =>
      have hi : r[i]? = some (l, c) := by simpa using h
      have ih := count_left r (d - c0) nd.2 i l c hi
      have hm : l ∈ r.map (·.1) := List.mem_map.mpr ⟨(l, c), List.mem_of_getElem? hi, rfl⟩
      have hne : l0 ≠ l := fun e => nd.1 (e ▸ hm)
      rw [ih]
      simp [lv, hne]
/-- labels of a row of counts -/
def lab (cs : List Nat) : List (Nat × Nat) := (List.range cs.length).zip cs
theorem lab_fst (cs : List Nat) : (lab cs).map (·.1) = List.range cs.length := by
  unfold lab
  rw [List.map_fst_zip]
  simp
theorem lab_snd (cs : List Nat) : (lab cs).map (·.2) = cs := by
  unfold lab
  rw [List.map_snd_zip]
  simp
theorem lab_get (cs : List Nat) (i : Nat) (h : i < cs.length) : (lab cs)[i]? = some (i, cs[i]) := by
  unfold lab
  rw [List.getElem?_zip_eq_some]
  simp [h]
/-- in the order of the tries, or from behind -/
def leftN (old : Bool) (d : Nat) (cs : List Nat) : List Nat := if old then (lv d cs.reverse).reverse else lv d cs
def lineN (old : Bool) (cs : List Nat) : List Nat := if old then (row (lab cs)).reverse else row (lab cs)
theorem leftN_len (old : Bool) (d : Nat) (cs : List Nat) : (leftN old d cs).length = cs.length := by
  unfold leftN
  split <;> simp [lv_len]
theorem count_line (old : Bool) (d : Nat) (cs : List Nat) (i : Nat) (h : i < cs.length) : ((lineN old cs).drop d).count i = (leftN old d cs).getD i 0 := by
  unfold lineN leftN
  cases old with
  | false =>
    have := count_left (lab cs) d (by rw [lab_fst]; exact List.nodup_range) i i cs[i] (lab_get cs i h)
    rw [lab_snd] at this
    simpa using this
  | true =>
    have hr : (lab cs).reverse[cs.length - 1 - i]? = some (i, cs[i]) := by
      have hl : (lab cs).length = cs.length := by have := congrArg List.length (lab_snd cs); simpa using this
      rw [List.getElem?_reverse (by omega), hl]
      have : cs.length - 1 - (cs.length - 1 - i) = i := by omega
      rw [this]
      exact lab_get cs i h
    have := count_left (lab cs).reverse d (by rw [List.map_reverse, lab_fst]; unfold List.Nodup; rw [List.pairwise_reverse]; exact (List.nodup_range (n := cs.length)).imp fun h => Ne.symm h) _ i cs[i] hr
    rw [List.map_reverse, lab_snd] at this
    rw [if_pos rfl, if_pos rfl, row_reverse, this]
    have hlv : (lv d cs.reverse).length = cs.length := by rw [lv_len, List.length_reverse]
    simp only [List.getD_eq_getElem?_getD]
    rw [List.getElem?_reverse (by omega), hlv]
theorem leftN_sum (old : Bool) (d : Nat) (cs : List Nat) (h : d ≤ cs.sum) : (leftN old d cs).sum + d = cs.sum := by
  unfold leftN
  cases old with
  | false =>
    have := lv_sum d cs
    simp only [Bool.false_eq_true, if_false]
    omega
  | true =>
    have := lv_sum d cs.reverse
    rw [List.sum_reverse] at this
    simp only [if_true, List.sum_reverse]
    omega
theorem lineN_len (old : Bool) (cs : List Nat) : (lineN old cs).length = cs.sum := by
  unfold lineN
  split <;> simp [row_len, lab_snd]
theorem leftN_le (old : Bool) (d : Nat) (cs : List Nat) (b : Nat) (h : ∀ c ∈ cs, c ≤ b) : ∀ x ∈ leftN old d cs, x ≤ b := by
  unfold leftN
  split
  · intro x hx
    exact lv_le d cs.reverse b (fun c hc => h c (by simpa using hc)) x (by simpa using hx)
  · exact lv_le d cs b h
/-- the program's loop -/
def serve (cs : List Nat) : List Nat → Nat → List Nat → List Nat
  | [], _, found => found
  | a :: as, rest, found => serve cs as (rest - cs.getD a 0) (found.set a (cs.getD a 0 - rest))
theorem serve_new (cs : List Nat) : ∀ (m o rest : Nat) (found : List Nat), o + m = cs.length → found.length = cs.length → serve cs (List.range' o m) rest found = found.take o ++ lv rest (cs.drop o)
  | 0, o, rest, found, h, hf => by
    have e1 : cs.drop o = [] := List.drop_eq_nil_of_le (by omega)
    have e2 : found.take o = found := List.take_of_length_le (by omega)
    simp [serve, lv, e1, e2]
  | m + 1, o, rest, found, h, hf => by
    have ho : o < cs.length := by omega
    rw [List.range'_succ, serve, serve_new cs m (o + 1) _ _ (by omega) (by simp [hf])]
    have e1 : cs.drop o = cs[o] :: cs.drop (o + 1) := List.drop_eq_getElem_cons ho
    have e2 : cs.getD o 0 = cs[o] := by simp [List.getD_eq_getElem?_getD, ho]
    rw [e1, lv, e2, List.take_set]
    have e3 : (found.take (o + 1)).set o (cs[o] - rest) = found.take o ++ [cs[o] - rest] := by
      rw [List.take_succ_eq_append_getElem (by omega), List.set_append]
      have : (found.take o).length = o := by simp; omega
      simp [this]
    rw [e3]
    simp
theorem serve_old (cs : List Nat) : ∀ (m rest : Nat) (found : List Nat), m ≤ cs.length → found.length = cs.length → serve cs (List.range m).reverse rest found = (lv rest (cs.take m).reverse).reverse ++ found.drop m
  | 0, rest, found, h, hf => by simp [serve, lv]
  | m + 1, rest, found, h, hf => by
    have ho : m < cs.length := by omega
    rw [List.range_succ, List.reverse_append, List.reverse_singleton, List.singleton_append, serve, serve_old cs m _ _ (by omega) (by simp [hf])]
    have e2 : cs.getD m 0 = cs[m] := by simp [List.getD_eq_getElem?_getD, ho]
    rw [e2, List.take_succ_eq_append_getElem ho, List.reverse_append, List.reverse_singleton, List.singleton_append, lv, List.reverse_cons]
    have e3 : (found.set m (cs[m] - rest)).drop m = (cs[m] - rest) :: found.drop (m + 1) := by
      rw [List.drop_eq_getElem_cons (by simp; omega)]
      rw [List.drop_set_of_lt (by omega)]
      simp
    rw [e3]
    simp
theorem serve_all (old : Bool) (cs : List Nat) (rest : Nat) : serve cs (if old then (List.range cs.length).reverse else List.range cs.length) rest cs = leftN old rest cs := by
  cases old with
  | false =>
    have := serve_new cs cs.length 0 rest cs (by omega) rfl
    rw [← List.range_eq_range'] at this
    simpa [leftN] using this
  | true =>
    have := serve_old cs cs.length rest cs (Nat.le_refl _) rfl
    simpa [leftN] using this
end Law

namespace Law
open PySem Pi
theorem run_rule (k : Nat) {c : List PV} (hc : Cup c) : ∃ (r0 r1 r2 r3 : Int) (s : Str) (c' : List PV), 0 ≤ r0 ∧ r0 ≤ 8 ∧ 0 ≤ r1 ∧ r1 ≤ 24 ∧ 1 ≤ r2 ∧ r2 ≤ 3 ∧ 1 ≤ r3 ∧ r3 ≤ 2 ∧ (s = "new" ∨ s = "old") ∧ Cup c' ∧
    tab.run (k + 4) "_law_rule" [.own (.lst c), .pv (.int 3), .pv (.int 2)] = .ok (.pv (.tup [.int r0, .int r1, .int r2, .int r3, .str s])) [some (.own (.lst c')), none, none] := by
  obtain ⟨v1, c1, a1, b1, d1, e1⟩ := run_roll (k + 2) hc 9 (by decide) (by decide)
  obtain ⟨v2, c2, a2, b2, d2, e2⟩ := run_roll (k + 2) d1 25 (by decide) (by decide)
  obtain ⟨v3, c3, m3, d3, e3⟩ := run_some (k + 1) d2 [.int 0, .int 10, .int v2] (by simp) (by simp)
  obtain ⟨v4, c4, a4, b4, d4, e4⟩ := run_roll (k + 2) d3 3 (by decide) (by decide)
  obtain ⟨v5, c5, a5, b5, d5, e5⟩ := run_roll (k + 2) d4 2 (by decide) (by decide)
  obtain ⟨v6, c6, m6, d6, e6⟩ := run_some (k + 1) d5 [.str "new", .str "old"] (by decide) (by decide)
  have h3 : ∃ r1, v3 = .int r1 ∧ 0 ≤ r1 ∧ r1 ≤ 24 := by
    simp at m3
    rcases m3 with rfl | rfl | rfl
    · exact ⟨0, rfl, by omega, by omega⟩
    · exact ⟨10, rfl, by omega, by omega⟩
    · exact ⟨v2, rfl, by omega, by omega⟩
  obtain ⟨r1, rfl, h31, h32⟩ := h3
  have h6 : ∃ s : Str, v6 = .str s ∧ (s = "new" ∨ s = "old") := by
    simp at m6
    rcases m6 with rfl | rfl
    · exact ⟨"new", rfl, .inl rfl⟩
    · exact ⟨"old", rfl, .inr rfl⟩
  obtain ⟨s, rfl, hs⟩ := h6
  refine ⟨v1, r1, 1 + v4, 1 + v5, s, c6, a1, by omega, h31, h32, by omega, by omega, by omega, by omega, hs, d6, ?_⟩
  rw [r__law_rule]
  simp [runBody, b__law_rule, ownsIn, outsOf, List.range_succ, cmpV, binV, e1, e2, e3, e4, e5, e6]
/-- a rule as the law makes it -/
structure Rl (R : PV) (r0 r1 r2 r3 : Int) (s : Str) : Prop where
  eq : R = .tup [.int r0, .int r1, .int r2, .int r3, .str s]
  a0 : 0 ≤ r0
  b0 : r0 ≤ 8
  a1 : 0 ≤ r1
  b1 : r1 ≤ 24
  a2 : 1 ≤ r2
  b2 : r2 ≤ 3
  a3 : 1 ≤ r3
  b3 : r3 ≤ 2
  hs : s = "new" ∨ s = "old"
theorem run_fits_rule (k : Nat) {R : PV} {r0 r1 r2 r3 : Int} {s : Str} (h : Rl R r0 r1 r2 r3 s) : tab.run (k + 2) "fits_rule" [.pv R] = .ok (.pv (.bl true)) [none] := by
  obtain ⟨rfl, a0, b0, a1, b1, a2, b2, a3, b3, hs⟩ := h
  rw [r_fits_rule]
  have t0 := run_whole k r0 0 1000
  have t1 := run_whole k r1 0 100
  have t2 := run_whole k r2 1 8
  have t3 := run_whole k r3 1 16
  have t4 := run_tup k [.int r0, .int r1, .int r2, .int r3, .str s] 5 5
  rw [decide_eq_true (by omega)] at t0 t1 t2 t3
  rw [decide_eq_true (by simp)] at t4
  have x1 : Pi.atI [PV.int r0, .int r1, .int r2, .int r3, .str s] 0 = some (.int r0) := rfl
  have x2 : Pi.atI [PV.int r0, .int r1, .int r2, .int r3, .str s] 1 = some (.int r1) := rfl
  have x3 : Pi.atI [PV.int r0, .int r1, .int r2, .int r3, .str s] 2 = some (.int r2) := rfl
  have x4 : Pi.atI [PV.int r0, .int r1, .int r2, .int r3, .str s] 3 = some (.int r3) := rfl
  have x5 : Pi.atI [PV.int r0, .int r1, .int r2, .int r3, .str s] 4 = some (.str s) := rfl
  have hin : inV (.str s) (.tup [.str "new", .str "old"]) = some true := by
    rcases hs with rfl | rfl <;> decide +kernel
  simp [-inV, runBody, b_fits_rule, ownsIn, outsOf, List.range_succ, cmpV, binV, t0, t1, t2, t3, t4, x1, x2, x3, x4, x5, hin]

/-- a state of the storm as a value -/
def sP (S : List (List Int)) : PV := .tup (S.map fun r => .tup (r.map .int))
structure StOk (S : List (List Int)) (r2 r3 : Int) : Prop where
  len : (S.length : Int) = r3
  row : ∀ r ∈ S, (r.length : Int) = r2 - 1 ∧ ∀ x ∈ r, 0 ≤ x ∧ x ≤ 13
theorem run_state_in (k : Nat) (m : Int) (hm : 0 < m) (hm2 : m ≤ 8) {R : PV} {r0 r1 r2 r3 : Int} {s : Str} (h : Rl R r0 r1 r2 r3 s) {c : List PV} (hc : Cup c) (x3 : Option XV) : ∃ (vs : List Int) (c' : List PV), Cup c' ∧ (vs.length : Int) = r2 - 1 ∧ (∀ v ∈ vs, 0 ≤ v ∧ v ≤ 7) ∧
    lcL [4] (.nm 4) tYes (eCall (tab.run (k + 1) "_law_roll") [oVar 0, oPv (eVar 2)]) (rgL 0 (r2 - 1)) [some (.own (.lst c)), some (.pv R), some (.pv (.int m)), x3, none] = .ok (vs.map .int) [some (.own (.lst c')), some (.pv R), some (.pv (.int m)), x3, none] := by
  have := lcL_inv (vs := [4]) (t := .nm 4) (e := eCall (tab.run (k + 1) "_law_roll") [oVar 0, oPv (eVar 2)]) (P := fun ρ => ∃ c, Cup c ∧ ρ = [some (.own (.lst c)), some (.pv R), some (.pv (.int m)), x3, none]) (R := fun _ y => ∃ v : Int, y = .int v ∧ (0 ≤ v ∧ v ≤ 7)) (xs := rgL 0 (r2 - 1))
    (ρ := [some (.own (.lst c)), some (.pv R), some (.pv (.int m)), x3, none]) ⟨c, hc, rfl⟩ ?_
  · obtain ⟨ys, ρ', e, ⟨c', hc', rfl⟩, p⟩ := this
    obtain ⟨vs, rfl, hl, hv⟩ := paired_map p
    refine ⟨vs, c', hc', ?_, hv, e⟩
    rw [hl]
    have := h.a2
    simp [rgL]
    omega
  · rintro x _ ρ ⟨c, hc, rfl⟩
    obtain ⟨v, c', a, b, d, e⟩ := run_roll k hc m hm (by omega)
    refine ⟨[some (.own (.lst c)), some (.pv R), some (.pv (.int m)), x3, some (.pv x)], [some (.own (.lst c')), some (.pv R), some (.pv (.int m)), x3, some (.pv x)], .pv (.int v), ?_, ?_, ⟨c', d, ?_⟩, v, rfl, a, by omega⟩
    · simp [bT]
    · simp [e]
    · simp
theorem run_state (k : Nat) (m : Int) (hm : 0 < m) (hm2 : m ≤ 8) {R : PV} {r0 r1 r2 r3 : Int} {s : Str} (h : Rl R r0 r1 r2 r3 s) {c : List PV} (hc : Cup c) : ∃ S c', Cup c' ∧ StOk S r2 r3 ∧
    tab.run (k + 2) "_law_state" [.own (.lst c), .pv R, .pv (.int m)] = .ok (.pv (sP S)) [some (.own (.lst c')), none, none] := by
  have hR := h.eq
  have x3 : Pi.atI [PV.int r0, .int r1, .int r2, .int r3, .str s] 2 = some (.int r2) := rfl
  have x4 : Pi.atI [PV.int r0, .int r1, .int r2, .int r3, .str s] 3 = some (.int r3) := rfl
  have g1 : rgOk 0 (r2 - 1) = true := by
    have := h.a2; have := h.b2
    simp [rgOk]; omega
  have g2 : rgOk 0 r3 = true := by
    have := h.a3; have := h.b3
    simp [rgOk]; omega
  let el : E := eUn tupleV (oE (eLc [4] (srR1 (oE (eBin (binV .Sub) (oE (eBin ixV (oVar 1) (oE (eC (.int (2)))))) (oE (eC (.int (1))))))) (.nm 4) (tYes) (eCall (tab.run (k + 1) "_law_roll") [oVar 0, oPv (eVar 2)])))
  have := lcL_inv (vs := [3]) (t := .nm 3) (e := el) (P := fun ρ => ∃ c, Cup c ∧ ρ = [some (.own (.lst c)), some (.pv R), some (.pv (.int m)), none, none]) (R := fun _ y => ∃ r : List Int, y = PV.tup (r.map .int) ∧ ((r.length : Int) = r2 - 1 ∧ ∀ x ∈ r, 0 ≤ x ∧ x ≤ 7)) (xs := rgL 0 r3)
    (ρ := [some (.own (.lst c)), some (.pv R), some (.pv (.int m)), none, none]) ⟨c, hc, rfl⟩ ?_
  · obtain ⟨ys, ρ', e, ⟨c', hc', rfl⟩, p⟩ := this
    obtain ⟨S, rfl, hl, hv⟩ := paired_map (f := fun r : List Int => PV.tup (r.map .int)) p
    have hl2 : (S.length : Int) = r3 := by
      rw [hl]
      have := h.a3
      simp [rgL]
      omega
    refine ⟨S, c', hc', ⟨hl2, fun r hr => ⟨(hv r hr).1, fun x hx => ⟨((hv r hr).2 x hx).1, by have := ((hv r hr).2 x hx).2; omega⟩⟩⟩, ?_⟩
    rw [r__law_state]
    have hz : S.length ≤ szL := by have := h.b3; unfold szL; omega
    have e' : lcL [3] (.nm 3) tYes el (rgL 0 r3) (wipe [3] [some (.own (.lst c)), some (.pv R), some (.pv (.int m)), none, none]) = .ok (S.map fun r => PV.tup (r.map .int)) [some (.own (.lst c')), some (.pv R), some (.pv (.int m)), none, none] := e
    have hE : eLc [3] (srR1 (oE (eBin ixV (oVar 1) (oE (eC (.int (3))))))) (.nm 3) tYes el [some (.own (.lst c)), some (.pv R), some (.pv (.int m)), none, none] = .ok (.own (.lst (S.map fun r => PV.tup (r.map .int)))) [some (.own (.lst c')), some (.pv R), some (.pv (.int m)), none, none] := by
      unfold eLc
      simp [hR, x4, g2]
      rw [← hR, e]
      simp [hz]
    show runBody { np := 3, nN := 5, io := [0], body := sRet (eUn tupleV (oE (eLc [3] (srR1 (oE (eBin ixV (oVar 1) (oE (eC (.int (3))))))) (.nm 3) tYes el))) } _ = _
    simp [-eLc, runBody, ownsIn, outsOf, List.range_succ, hE, sP]
  · rintro x _ ρ ⟨c, hc, rfl⟩
    obtain ⟨vs, c', d, hl, hv, e⟩ := run_state_in k m hm hm2 h hc (some (.pv x))
    have hz : vs.length ≤ szL := by have := h.b2; unfold szL; omega
    refine ⟨[some (.own (.lst c)), some (.pv R), some (.pv (.int m)), some (.pv x), none], [some (.own (.lst c')), some (.pv R), some (.pv (.int m)), some (.pv x), none], .pv (.tup (vs.map .int)), ?_, ?_, ⟨c', d, ?_⟩, vs, rfl, hl, hv⟩
    · simp [bT]
    · show el _ = _
      simp only [el]
      simp [eLc, hR, x3, g1, binV]
      rw [← hR, e]
      simp [hz]
    · simp
end Law

namespace Law
open PySem Pi
theorem run_fits_state (k : Nat) {R : PV} {r0 r1 r2 r3 : Int} {s : Str} (h : Rl R r0 r1 r2 r3 s) {S : List (List Int)} (hS : StOk S r2 r3) : tab.run (k + 2) "fits_state" [.pv R, .pv (sP S)] = .ok (.pv (.bl true)) [none, none] := by
  have hR := h.eq
  have x3 : Pi.atI [PV.int r0, .int r1, .int r2, .int r3, .str s] 2 = some (.int r2) := rfl
  have x4 : Pi.atI [PV.int r0, .int r1, .int r2, .int r3, .str s] 3 = some (.int r3) := rfl
  have hlen : S.length ≤ 3 := by have := hS.len; have := h.b3; omega
  have t1 := run_tup k (S.map fun r => PV.tup (r.map PV.int)) r3 r3
  rw [decide_eq_true (by rw [List.length_map]; have := hS.len; omega)] at t1
  have c1 : eLc [3] (srE (eVar 1)) (.nm 3) tYes (eCall (tab.run (k + 1) "is_tuple_of") [oPv (eVar 3), oPv (eVar 2), oPv (eVar 2)]) [some (.pv R), some (.pv (sP S)), some (.pv (.int (r2 - 1))), none, none] =
      .ok (.own (.lst (S.map fun _ => .bl true))) [some (.pv R), some (.pv (sP S)), some (.pv (.int (r2 - 1))), none, none] := by
    have := lcL_pure (vs := [3]) (t := .nm 3) (e := eCall (tab.run (k + 1) "is_tuple_of") [oPv (eVar 3), oPv (eVar 2), oPv (eVar 2)]) (ρ := [some (.pv R), some (.pv (sP S)), some (.pv (.int (r2 - 1))), none, none]) (f := fun _ => .bl true) (xs := S.map fun r => PV.tup (r.map PV.int)) ?_
    · simp only [List.map_map] at this
      have hz : S.length ≤ szL := by unfold szL; omega
      simp [eLc, sP] at this ⊢
      rw [this]
      simp [hz]
    · intro x hx
      obtain ⟨r, hr, rfl⟩ := List.mem_map.mp hx
      obtain ⟨l1, l2⟩ := hS.row r hr
      have t2 := run_tup k (r.map PV.int) (r2 - 1) (r2 - 1)
      rw [decide_eq_true (by rw [List.length_map]; omega)] at t2
      refine ⟨[some (.pv R), some (.pv (sP S)), some (.pv (.int (r2 - 1))), some (.pv (.tup (r.map PV.int))), none], [some (.pv R), some (.pv (sP S)), some (.pv (.int (r2 - 1))), some (.pv (.tup (r.map PV.int))), none], .pv (.bl true), ?_, ?_, rfl, ?_⟩
      · simp [bT]
      · simp [t2]
      · simp
  have hf : ((S.map fun r => PV.tup (r.map PV.int)).flatMap fun x => (match x with | .tup ys => ys.map fun _ => PV.bl true | _ => [])).length ≤ szL := by
    have : ∀ S : List (List Int), (∀ r ∈ S, r.length ≤ 3) → ((S.map fun r => PV.tup (r.map PV.int)).flatMap fun x => (match x with | .tup ys => ys.map fun _ => PV.bl true | _ => [])).length ≤ 3 * S.length := fun S => by
      induction S with
      | nil => intro _; simp
      | cons r S ih =>
        intro h
        have h1 := ih fun z hz => h z (List.mem_cons_of_mem _ hz)
        have h2 := h r (by simp)
        simp only [List.map_cons, List.flatMap_cons, List.length_append, List.length_map, List.length_cons]
        omega
    have q := this S fun r hr => by have := (hS.row r hr).1; have := h.b2; omega
    unfold szL
    omega
  have c2 : eLc2 [3, 4] [4] (srE (eVar 1)) (.nm 3) tYes (srE (eVar 3)) (.nm 4) tYes (eCall (tab.run (k + 1) "is_whole") [oPv (eVar 4), oPv (eC (.int (0))), oPv (eC (.int (1000)))]) [some (.pv R), some (.pv (sP S)), some (.pv (.int (r2 - 1))), none, none] =
      .ok (.own (.lst ((S.map fun r => PV.tup (r.map PV.int)).flatMap fun x => (match x with | .tup ys => ys.map fun _ => PV.bl true | _ => [])))) [some (.pv R), some (.pv (sP S)), some (.pv (.int (r2 - 1))), none, none] := by
    have := lcL2_pure (vs := [3, 4]) (vs1 := [4]) (t := .nm 3) (s1 := srE (eVar 3)) (t1 := .nm 4) (tst1 := tYes) (e := eCall (tab.run (k + 1) "is_whole") [oPv (eVar 4), oPv (eC (.int (0))), oPv (eC (.int (1000)))]) (ρ := [some (.pv R), some (.pv (sP S)), some (.pv (.int (r2 - 1))), none, none])
      (f := fun x => (match x with | .tup ys => ys.map fun _ => PV.bl true | _ => [])) (xs := S.map fun r => PV.tup (r.map PV.int)) ?_
    · have hsrc : srE (eVar 1) [some (.pv R), some (.pv (sP S)), some (.pv (.int (r2 - 1))), none, none] = .ok (S.map fun r => PV.tup (r.map PV.int)) [some (.pv R), some (.pv (sP S)), some (.pv (.int (r2 - 1))), none, none] := by simp [sP]
      unfold eLc2
      rw [hsrc]
      simp only [Out.bd, noOwn, List.getElem?_cons_succ, List.getElem?_cons_zero, Bool.and_true, if_true]
      have hw : wipe [3, 4] [some (.pv R), some (.pv (sP S)), some (.pv (.int (r2 - 1))), none, none] = [some (.pv R), some (.pv (sP S)), some (.pv (.int (r2 - 1))), none, none] := by simp
      rw [hw, this]
      simp only [nox, Out.bd, if_pos hf]
      simp
    · intro x hx
      obtain ⟨r, hr, rfl⟩ := List.mem_map.mp hx
      obtain ⟨l1, l2⟩ := hS.row r hr
      have := lcL_pure (vs := [4]) (t := .nm 4) (e := eCall (tab.run (k + 1) "is_whole") [oPv (eVar 4), oPv (eC (.int (0))), oPv (eC (.int (1000)))]) (ρ := [some (.pv R), some (.pv (sP S)), some (.pv (.int (r2 - 1))), some (.pv (.tup (r.map PV.int))), none]) (f := fun _ => .bl true) (xs := r.map PV.int) ?_
      · refine ⟨[some (.pv R), some (.pv (sP S)), some (.pv (.int (r2 - 1))), some (.pv (.tup (r.map PV.int))), none], [some (.pv R), some (.pv (sP S)), some (.pv (.int (r2 - 1))), some (.pv (.tup (r.map PV.int))), none], r.map PV.int, [some (.pv R), some (.pv (sP S)), some (.pv (.int (r2 - 1))), some (.pv (.tup (r.map PV.int))), none], ?_, ?_, ?_, ?_⟩
        · simp [bT]
        · simp
        · simpa using this
        · simp
      · intro y hy
        obtain ⟨v, hv, rfl⟩ := List.mem_map.mp hy
        have t3 := run_whole k v 0 1000
        rw [decide_eq_true (by have := l2 v hv; omega)] at t3
        refine ⟨[some (.pv R), some (.pv (sP S)), some (.pv (.int (r2 - 1))), some (.pv (.tup (r.map PV.int))), some (.pv (.int v))], [some (.pv R), some (.pv (sP S)), some (.pv (.int (r2 - 1))), some (.pv (.tup (r.map PV.int))), some (.pv (.int v))], .pv (.bl true), ?_, ?_, rfl, ?_⟩
        · simp [bT]
        · simp [t3]
        · simp
  have a1 : allV (.lst (S.map fun _ => PV.bl true)) = some (.pv (.bl true)) := allV_true fun y hy => by
    obtain ⟨r, _, rfl⟩ := List.mem_map.mp hy; rfl
  have a2 : allV (.lst ((S.map fun r => PV.tup (r.map PV.int)).flatMap fun x => (match x with | .tup ys => ys.map fun _ => PV.bl true | _ => []))) = some (.pv (.bl true)) := allV_true fun y hy => by
    obtain ⟨x, hx, hy⟩ := List.mem_flatMap.mp hy
    obtain ⟨r, _, rfl⟩ := List.mem_map.mp hx
    obtain ⟨z, _, rfl⟩ := List.mem_map.mp hy
    rfl
  rw [r_fits_state]
  have c1' := c1
  have c2' := c2
  have t1' : tab.run (k + 1) "is_tuple_of" [.pv (sP S), .pv (.int r3), .pv (.int r3)] = .ok (.pv (.bl true)) [none, none, none] := t1
  clear c1 c2 t1
  subst hR
  simp [-allV, runBody, b_fits_state, ownsIn, outsOf, List.range_succ, cmpV, binV, bT, x3, x4, t1', c1', c2', a1, a2]
end Law

namespace Law
open PySem Pi
section
variable {R : PV} {r0 r1 r2 r3 : Int} {s : Str} {S : List (List Int)}

theorem run_need_rule (k : Nat) (h : Rl R r0 r1 r2 r3 s) : tab.run (k + 3) "need_rule" [.pv R] = .ok (.pv .non) [none] := by
  rw [r_need_rule]
  simp [runBody, b_need_rule, ownsIn, outsOf, List.range_succ, run_fits_rule k h]
theorem run_need_state (k : Nat) (h : Rl R r0 r1 r2 r3 s) (hS : StOk S r2 r3) : tab.run (k + 4) "need_state" [.pv R, .pv (sP S)] = .ok (.pv .non) [none, none] := by
  rw [r_need_state]
  simp [runBody, b_need_state, ownsIn, outsOf, List.range_succ, run_need_rule k h, run_fits_state (k + 1) h hS]

theorem run_need_fresh (k : Nat) (f : Int) (h0 : 0 ≤ f) (h1 : f ≤ 13) : tab.run (k + 2) "need_fresh" [.pv (.int f)] = .ok (.pv .non) [none] := by
  have t := run_whole k f 0 1000
  rw [decide_eq_true (by omega)] at t
  rw [r_need_fresh]
  simp [runBody, b_need_fresh, ownsIn, outsOf, List.range_succ, t]
def quiet (r2 r3 : Int) : PV := .tup (rep r3 [.tup (rep (r2 - 1) [.int 0])])

theorem run_law_quiet (k : Nat) (h : Rl R r0 r1 r2 r3 s) : tab.run (k + 1) "_law_quiet" [.pv R] = .ok (.pv (quiet r2 r3)) [none] := by
  obtain ⟨rfl, a0, b0, a1, b1, a2, b2, a3, b3, hs⟩ := h
  have x3 : Pi.atI [PV.int r0, .int r1, .int r2, .int r3, .str s] 2 = some (.int r2) := rfl
  have x4 : Pi.atI [PV.int r0, .int r1, .int r2, .int r3, .str s] 3 = some (.int r3) := rfl
  have m1 : -1000000 ≤ r2 - 1 ∧ r2 - 1 ≤ 1000 := by omega
  have m2 : -1000000 ≤ r3 ∧ r3 ≤ 1000 := by omega
  rw [r__law_quiet]
  simp [runBody, b__law_quiet, ownsIn, outsOf, List.range_succ, cmpV, binV, x3, x4, m1, m2, quiet]


end
end Law

namespace Law
open PySem Pi
theorem cut_from {α : Type} (xs : List α) (d : Nat) (h : d ≤ xs.length) : cut xs (some (d : Int)) none = xs.drop d := by
  unfold cut
  rw [HT.sIx_nat, HT.sIx_none, Nat.min_eq_left h]
  exact List.take_of_length_le (by simp)
theorem cut_last {α : Type} (xs : List α) (h : 0 < xs.length) : cut xs none (some (-1)) = xs.dropLast := by
  unfold cut HT.sIx
  simp [List.dropLast_eq_take]
  omega
/-- what is done in one tick -/
def Dn (r0 r1 c : Int) : Int := (if (if r0 < c then r0 else c) - ((if 0 < c - r0 then c - r0 else 0) * r1 + 9).fdiv 10 > 0 then (if r0 < c then r0 else c) - ((if 0 < c - r0 then c - r0 else 0) * r1 + 9).fdiv 10 else 0)
section
variable {R : PV} {r0 r1 r2 r3 : Int} {s : Str} {S : List (List Int)}
theorem run_done (k : Nat) (h : Rl R r0 r1 r2 r3 s) (c : Int) : tab.run (k + 1) "done_in" [.pv R, .pv (.int c)] = .ok (.pv (.int (Dn r0 r1 c))) [none, none] := by
  obtain ⟨rfl, a0, b0, a1, b1, a2, b2, a3, b3, hs⟩ := h
  have x1 : Pi.atI [PV.int r0, .int r1, .int r2, .int r3, .str s] 0 = some (.int r0) := rfl
  have x2 : Pi.atI [PV.int r0, .int r1, .int r2, .int r3, .str s] 1 = some (.int r1) := rfl
  have m1 : ∀ j, mulOk j r1 = true := fun j => by simp [mulOk]; omega
  have d1 : divOk 10 = true := by decide
  rw [r_done_in]
  simp [runBody, b_done_in, ownsIn, outsOf, List.range_succ, cmpV, binV, bT, x1, x2, m1, d1, Dn]
theorem Dn_le (h : Rl R r0 r1 r2 r3 s) (c : Int) (hc : 0 ≤ c) : 0 ≤ Dn r0 r1 c ∧ Dn r0 r1 c ≤ c := by
  have a0 := h.a0
  have a1 := h.a1
  have q : 0 ≤ ((if 0 < c - r0 then c - r0 else 0) * r1 + 9).fdiv 10 := by
    apply Int.fdiv_nonneg
    · have : 0 ≤ (if 0 < c - r0 then c - r0 else 0) * r1 := Int.mul_nonneg (by split <;> omega) a1
      omega
    · decide
  unfold Dn
  generalize ((if 0 < c - r0 then c - r0 else 0) * r1 + 9).fdiv 10 = f at q ⊢
  constructor <;> (repeat' split) <;> omega
theorem for_done (R : PV) (c o : Int) (Φ : Str → List XV → FOut) : ∀ (m a : Nat) (x : Option XV), ∃ x', forL (.nm 4) (sAsg (.nm 3) (eBin (binV .Add) (oVar 3) (oE (eIf (tCmp (cmpV .Eq) (oE (eBin (binV .Mod) (oE (eUn intV (oVar 4))) (oE (eC (.int (10)))))) (oE (eC (.int (0))))) (eC (.int (1))) (eC (.int (0)))))))
    ((List.range' a m).map fun i => PV.int (i : Nat)) [some (.pv R), some (.pv (.int c)), some (.pv (.int o)), some (.pv (.int ((a + 9) / 10 : Nat))), x] = .ok .nx [some (.pv R), some (.pv (.int c)), some (.pv (.int o)), some (.pv (.int ((a + m + 9) / 10 : Nat))), x']
  | 0, a, x => ⟨x, rfl⟩
  | m + 1, a, x => by
    obtain ⟨x', e⟩ := for_done R c o Φ m (a + 1) (some (.pv (.int (a : Nat))))
    refine ⟨x', ?_⟩
    rw [List.range'_succ, List.map_cons]
    rw [forL_nx (ρ1 := [some (.pv R), some (.pv (.int c)), some (.pv (.int o)), some (.pv (.int ((a + 9) / 10 : Nat))), some (.pv (.int (a : Nat)))]) (ρ2 := [some (.pv R), some (.pv (.int c)), some (.pv (.int o)), some (.pv (.int ((a + 1 + 9) / 10 : Nat))), some (.pv (.int (a : Nat)))]) (by simp [bT]) ?_, e]
    · rw [show a + 1 + m + 9 = a + (m + 1) + 9 from by omega]
    · have hm : (a : Int).fmod 10 = ((a % 10 : Nat) : Int) := by rw [Int.fmod_eq_emod_of_nonneg _ (by decide)]; omega
      by_cases hz : a % 10 = 0
      · have e1 : ((a + 1 + 9) / 10 : Nat) = (a + 9) / 10 + 1 := by omega
        have e2 : eqV (.int ((a : Int).fmod 10)) (.int 0) = some true := by rw [eqV_int, hm, hz]; rfl
        simp [-eqV, bT, binV, cmpV, e2, e1]
      · have e1 : ((a + 1 + 9) / 10 : Nat) = (a + 9) / 10 := by omega
        have e2 : eqV (.int ((a : Int).fmod 10)) (.int 0) = some false := by
          rw [eqV_int, hm]
          have : ¬ ((a % 10 : Nat) : Int) = 0 := by omega
          simp only [Option.some.injEq, beq_eq_false_iff_ne, ne_eq]
          exact this
        simp [-eqV, bT, binV, cmpV, e2, e1]
theorem run_law_done (k : Nat) (h : Rl R r0 r1 r2 r3 s) (c : Nat) (hc : c ≤ 1000) : tab.run (k + 1) "_law_done" [.pv R, .pv (.int (c : Nat))] = .ok (.pv (.int (Dn r0 r1 c))) [none, none] := by
  obtain ⟨rfl, a0, b0, a1, b1, a2, b2, a3, b3, hs⟩ := h
  have x1 : Pi.atI [PV.int r0, .int r1, .int r2, .int r3, .str s] 0 = some (.int r0) := rfl
  have x2 : Pi.atI [PV.int r0, .int r1, .int r2, .int r3, .str s] 1 = some (.int r1) := rfl
  have m1 : ∀ j, mulOk j r1 = true := fun j => by simp [mulOk]; omega
  rw [r__law_done]
  by_cases ho : (c : Int) - r0 ≤ 0
  · have hle : leV (.int ((c : Int) - r0)) (.int 0) = some true := by simp only [leV, ho, decide_true]
    have hD : Dn r0 r1 c = c := by
      have e0 : ((0 : Int) * r1 + 9).fdiv 10 = 0 := by rw [Int.zero_mul]; decide
      unfold Dn
      rw [if_neg (by omega : ¬ (0 : Int) < c - r0), e0, if_neg (by omega : ¬ r0 < (c : Int))]
      split <;> omega
    rw [hD]
    simp [-leV, runBody, b__law_done, ownsIn, outsOf, List.range_succ, cmpV, binV, bT, x1, x2, m1, hle]
  · have hle : leV (.int ((c : Int) - r0)) (.int 0) = some false := by simp only [leV, ho, decide_false]
    have hpos : 0 ≤ ((c : Int) - r0) * r1 := Int.mul_nonneg (by omega) a1
    have hup : ((c : Int) - r0) * r1 ≤ 1000 * 24 := Int.mul_le_mul (by omega) (by omega) a1 (by omega)
    obtain ⟨n, hn⟩ := Int.eq_ofNat_of_zero_le hpos
    have g : rgOk 0 (n : Int) = true := by simp [rgOk]; omega
    obtain ⟨x', e⟩ := for_done (.tup [.int r0, .int r1, .int r2, .int r3, .str s]) c (c - r0) (tab.run k) n 0 none
    rw [← List.range_eq_range', ← rgL_zero] at e
    have hD : Dn r0 r1 c = if r0 - ((n + 9) / 10 : Nat) > 0 then r0 - ((n + 9) / 10 : Nat) else 0 := by
      unfold Dn
      rw [if_pos (by omega : (0 : Int) < c - r0), hn, if_pos (by omega : r0 < (c : Int))]
      have : ((n : Int) + 9).fdiv 10 = ((n + 9) / 10 : Nat) := by rw [Int.fdiv_eq_ediv_of_nonneg _ (by decide)]; omega
      rw [this]
    rw [hD]
    simp [binV] at e
    simp [-leV, runBody, b__law_done, ownsIn, outsOf, List.range_succ, cmpV, binV, bT, x1, x2, m1, hle, hn, g, e]
end
end Law

namespace Law
open PySem Pi
def nI (cs : List Nat) : List PV := cs.map fun c => .int (c : Nat)
theorem nI_len (cs : List Nat) : (nI cs).length = cs.length := by simp [nI]
theorem nI_at (cs : List Nat) (a : Nat) (h : a < cs.length) : Pi.atI (nI cs) (a : Nat) = some (.int (cs[a] : Nat)) := atI_nat (by simp [nI, h])
theorem nI_ix (cs : List Nat) (a : Nat) (h : a < cs.length) : Pi.ixN (nI cs).length (a : Nat) = some a := by
  unfold Pi.ixN
  rw [nI_len, if_pos (by omega), if_pos (by omega)]
  simp
theorem nI_set (cs : List Nat) (a x : Nat) : (nI cs).set a (.int (x : Nat)) = nI (cs.set a x) := by simp [nI, List.map_set]
theorem nI_sum : ∀ cs : List Nat, allInts (nI cs) = some (cs.map fun c : Nat => (c : Int)) := fun cs => by
  have := allInts_map (cs.map fun c : Nat => (c : Int))
  rw [List.map_map] at this
  exact this
theorem cast_sum : ∀ cs : List Nat, (cs.map fun c : Nat => (c : Int)).sum = ((cs.sum : Nat) : Int)
  | [] => rfl
  | c :: cs => by simp [cast_sum cs]
theorem rg_nI (n : Nat) : rgL 0 (n : Int) = nI (List.range n) := rgL_zero n
abbrev leftBody : S := sSeq (sAsg (.nm 6) (eBin min2V (oVar 2) (oE (eBin ixV (oVar 1) (oVar 5)))))
    (sPar [.nm 2, .ix 3 (oVar 5)] [eBin (binV .Sub) (oVar 2) (oVar 6), eBin (binV .Sub) (oE (eBin ixV (oVar 1) (oVar 5))) (oVar 6)])
theorem for_left (R : PV) (cs : List Nat) (x4 : Option XV) : ∀ (as : List Nat) (rest : Nat) (found : List Nat) (x5 x6 : Option XV), (∀ a ∈ as, a < cs.length) → found.length = cs.length →
    ∃ (rest' : Nat) (x5' x6' : Option XV), forL (.nm 5) leftBody (nI as) [some (.pv R), some (.pv (.lst (nI cs))), some (.pv (.int (rest : Nat))), some (.own (.lst (nI found))), x4, x5, x6] =
      .ok .nx [some (.pv R), some (.pv (.lst (nI cs))), some (.pv (.int (rest' : Nat))), some (.own (.lst (nI (serve cs as rest found)))), x4, x5', x6']
  | [], rest, found, x5, x6, _, _ => ⟨rest, x5, x6, rfl⟩
  | a :: as, rest, found, x5, x6, h, hf => by
    have ha : a < cs.length := h a (by simp)
    have e1 := nI_at cs a ha
    have e2 := nI_ix found a (by omega)
    have gd : cs.getD a 0 = cs[a] := by simp [List.getD_eq_getElem?_getD, ha]
    obtain ⟨rest', x5', x6', e⟩ := for_left R cs x4 as (rest - cs[a]) (found.set a (cs[a] - rest)) (some (.pv (.int (a : Nat)))) (some (.pv (.int ((if cs[a] < rest then cs[a] else rest : Nat) : Nat)))) (fun b hb => h b (by simp [hb])) (by simp [hf])
    refine ⟨rest', x5', x6', ?_⟩
    rw [serve, gd, ← e]
    show forL (.nm 5) leftBody (.int (a : Nat) :: nI as) _ = _
    refine forL_nx (ρ1 := [some (.pv R), some (.pv (.lst (nI cs))), some (.pv (.int (rest : Nat))), some (.own (.lst (nI found))), x4, some (.pv (.int (a : Nat))), x6]) (by simp [bT]) ?_
    by_cases hc : cs[a] < rest
    · have c1 : ((cs[a] : Nat) : Int) < rest := by omega
      have c2 : ((rest : Nat) : Int) - (cs[a] : Nat) = ((rest - cs[a] : Nat) : Int) := by omega
      have c3 : ((cs[a] : Nat) : Int) - (cs[a] : Nat) = ((cs[a] - rest : Nat) : Int) := by omega
      simp only [leftBody, sSeq, sAsg, sPar, eBin, oVar, oE, evs, asgL, bT, List.getElem?_cons_zero, List.getElem?_cons_succ, Out.bd, dr, XV.val, Option.bind_some, min2V, ixV, e1, Option.map_some, res, c1, if_true, binV, subV, List.set_cons_zero, List.set_cons_succ, c2, c3, setIx, e2, nI_set, hc]
    · have c1 : ¬ ((cs[a] : Nat) : Int) < rest := by omega
      have c2 : ((rest : Nat) : Int) - (rest : Nat) = ((rest - cs[a] : Nat) : Int) := by omega
      have c3 : ((cs[a] : Nat) : Int) - (rest : Nat) = ((cs[a] - rest : Nat) : Int) := by omega
      simp only [leftBody, sSeq, sAsg, sPar, eBin, oVar, oE, evs, asgL, bT, List.getElem?_cons_zero, List.getElem?_cons_succ, Out.bd, dr, XV.val, Option.bind_some, min2V, ixV, e1, Option.map_some, res, c1, if_false, binV, subV, List.set_cons_zero, List.set_cons_succ, c2, c3, setIx, e2, nI_set, hc]
section
variable {R : PV} {r0 r1 r2 r3 : Int} {s : Str} {S : List (List Int)}
def isOld (s : Str) : Bool := s == ("old" : Str)
theorem run_left (k : Nat) (h : Rl R r0 r1 r2 r3 s) (cs : List Nat) (hl : cs.length ≤ 8) : tab.run (k + 2) "left_in" [.pv R, .pv (.lst (nI cs))] = .ok (.own (.lst (nI (leftN (isOld s) (Dn r0 r1 cs.sum).toNat cs)))) [none, none] := by
  have hD := run_done k h cs.sum
  have hDl := Dn_le h cs.sum (by omega)
  obtain ⟨D, hDn⟩ := Int.eq_ofNat_of_zero_le hDl.1
  have hR := h.eq
  have x5 : Pi.atI [PV.int r0, .int r1, .int r2, .int r3, .str s] 4 = some (.str s) := rfl
  have g : rgOk 0 (cs.length : Int) = true := by simp [rgOk]; omega
  have hsum : sumV (.lst (nI cs)) = some (.pv (.int (cs.sum : Nat))) := by simp [nI_sum, cast_sum]
  have hE : eqV (.str s) (.str "old") = some (isOld s) := by rcases h.hs with rfl | rfl <;> decide +kernel
  have hser := serve_all (isOld s) cs D
  rw [hDn] at hD ⊢
  rw [Int.toNat_natCast, ← hser]
  cases hb : isOld s with
  | false =>
    rw [hb] at hE
    obtain ⟨rest', y5, y6, e⟩ := for_left R cs (some (.pv (.lst (nI (List.range cs.length))))) (List.range cs.length) D cs none none (fun a ha => by simpa using ha) rfl
    rw [r_left_in]
    subst hR
    simp [leftBody, binV] at e
    simp [-eqV, -sumV, runBody, b_left_in, ownsIn, outsOf, List.range_succ, cmpV, binV, bT, hD, hsum, x5, hE, g, rg_nI, nI_len, e]
  | true =>
    rw [hb] at hE
    obtain ⟨rest', y5, y6, e⟩ := for_left R cs (some (.pv (.lst (nI (List.range cs.length).reverse)))) (List.range cs.length).reverse D cs none none (fun a ha => by simpa using ha) rfl
    rw [r_left_in]
    subst hR
    have hrev : (nI (List.range cs.length)).reverse = nI (List.range cs.length).reverse := by simp [nI]
    simp [leftBody, binV] at e
    simp [-eqV, -sumV, runBody, b_left_in, ownsIn, outsOf, List.range_succ, cmpV, binV, bT, hD, hsum, x5, hE, g, rg_nI, nI_len, hrev, e]
end
end Law

namespace Law
open PySem Pi
theorem natsOf : ∀ r : List Int, (∀ x ∈ r, 0 ≤ x) → ∃ rn : List Nat, r = rn.map fun c : Nat => (c : Int)
  | [], _ => ⟨[], rfl⟩
  | x :: r, h => by
    obtain ⟨rn, e⟩ := natsOf r fun y hy => h y (by simp [hy])
    obtain ⟨n, hn⟩ := Int.eq_ofNat_of_zero_le (h x (by simp))
    exact ⟨n :: rn, by simp [e, hn]⟩
/-- a tick's answer -/
def tickV (D : Nat) (left : List Nat) (S : List (List Int)) : PV := .tup [.int (D : Nat), .int (left.getD (left.length - 1) 0 : Nat), sP (S.drop 1 ++ [left.dropLast.map fun c : Nat => (c : Int)])]
theorem nI_last (cs : List Nat) (h : 0 < cs.length) : Pi.atI (nI cs) (-1) = some (.int (cs.getD (cs.length - 1) 0 : Nat)) := by
  unfold Pi.atI Pi.ixN
  rw [if_neg (by decide), if_pos (by rw [nI_len]; omega), nI_len]
  have : (-1 + (cs.length : Int)).toNat = cs.length - 1 := by omega
  have hh : cs.length - 1 < cs.length := by omega
  simp [this, nI, List.getD_eq_getElem?_getD, List.getElem?_eq_getElem hh]
section
variable {R : PV} {r0 r1 r2 r3 : Int} {s : Str} {S : List (List Int)}
theorem run_behind (k : Nat) (h : Rl R r0 r1 r2 r3 s) (rn : List Nat) (S' : List (List Int)) (hl : rn.length ≤ 4) (hS : S'.length ≤ 3) (f : Nat) :
    tab.run (k + 3) "behind" [.pv R, .pv (sP ((rn.map fun c : Nat => (c : Int)) :: S')), .pv (.int (f : Nat))] = .ok (.pv (tickV (Dn r0 r1 ((f :: rn).sum : Nat)).toNat (leftN (isOld s) (Dn r0 r1 ((f :: rn).sum : Nat)).toNat (f :: rn)) ((rn.map fun c : Nat => (c : Int)) :: S'))) [none, none, none] := by
  have hL := run_left k h (f :: rn) (by simp; omega)
  have hDl := Dn_le h ((f :: rn).sum : Nat) (by omega)
  obtain ⟨D, hDn⟩ := Int.eq_ofNat_of_zero_le hDl.1
  rw [hDn] at hL hDl ⊢
  rw [Int.toNat_natCast] at hL ⊢
  have hsumL := leftN_sum (isOld s) D (f :: rn) (by omega)
  have hlenL := leftN_len (isOld s) D (f :: rn)
  generalize hleft : leftN (isOld s) D (f :: rn) = left at hL hsumL hlenL ⊢
  have hs1 : sumV (.lst (nI (f :: rn))) = some (.pv (.int ((f :: rn).sum : Nat))) := by simp only [sumV, items, Option.bind_some, nI_sum, Option.map_some, cast_sum]
  have hs2 : sumV (.lst (nI left)) = some (.pv (.int (left.sum : Nat))) := by simp only [sumV, items, Option.bind_some, nI_sum, Option.map_some, cast_sum]
  have hsP : sP ((rn.map fun c : Nat => (c : Int)) :: S') = .tup (PV.tup (nI rn) :: S'.map fun r => PV.tup (r.map PV.int)) := by
    unfold sP nI
    rw [List.map_cons, List.map_map]
    rfl
  have hdl : sP (((rn.map fun c : Nat => (c : Int)) :: S').drop 1 ++ [left.dropLast.map fun c : Nat => (c : Int)]) = .tup ((S'.map fun r => PV.tup (r.map PV.int)) ++ [PV.tup (nI left).dropLast]) := by
    unfold sP nI
    rw [List.drop_one, List.tail_cons, List.map_append, List.map_cons, List.map_nil, List.map_map, ← List.map_dropLast]
    rfl
  unfold tickV
  rw [hsP, hdl]
  have hT : (S'.map fun r => PV.tup (r.map PV.int)).length = S'.length := by simp
  generalize (S'.map fun r => PV.tup (r.map PV.int)) = T at hT ⊢
  have h0 : Pi.atI (PV.tup (nI rn) :: T) 0 = some (PV.tup (nI rn)) := atI_zero
  have z1 : 1 + (nI rn).length ≤ szL := by rw [nI_len]; unfold szL; omega
  have z2 : T.length + 1 ≤ szL := by unfold szL; omega
  have hlast := nI_last left (by rw [hlenL]; simp)
  have hcut := cut_last (nI left) (by rw [nI_len, hlenL]; simp)
  have hcut2 : cut (PV.tup (nI rn) :: T) (some 1) none = T := cut_from _ 1 (by simp)
  have hD2 : (((f :: rn).sum : Nat) : Int) - (left.sum : Nat) = (D : Nat) := by omega
  have hc : PV.int (f : Nat) :: nI rn = nI (f :: rn) := rfl
  generalize hQ : (left.getD (left.length - 1) 0) = q at hlast ⊢
  generalize hcc : (f :: rn) = cs at hL hs1 hD2 hc
  rw [r_behind]
  simp [-sumV, -nI_len, runBody, b_behind, ownsIn, outsOf, List.range_succ, binV, bT, h0, z1, z2, hc, hL, hlast, hcut, hcut2, hs1, hs2]
  exact hD2
end
end Law

namespace Law
open PySem Pi
theorem nI_append (a b : List Nat) : nI (a ++ b) = nI a ++ nI b := by simp [nI]
theorem nI_rep (c i : Nat) : rep (c : Int) [PV.int (i : Nat)] = nI (List.replicate c i) := by
  unfold rep nI
  rw [Int.toNat_natCast]
  induction c with
  | zero => rfl
  | succ c ih => rw [List.replicate_succ, List.flatten_cons, ih]; rfl
theorem for_row (a0 a1 a2 a3 a4 a8 : Option XV) : ∀ (cs : List Nat) (o : Nat) (L : List Nat) (x6 x7 : Option XV), (∀ c ∈ cs, c ≤ 1000) → L.length + cs.sum ≤ 100000 → ∃ x6' x7' : Option XV, (∀ q, x7 ≠ some (.own q)) → (∀ q, x7' ≠ some (.own q)) ∧
    forL (.tp [.nm 6, .nm 7]) (sAsg (.nm 5) (eBin (binV .Add) (oVar 5) (oE (eBin (binV .Mult) (oE (eLst [eVar 6])) (oVar 7))))) (enumL (o : Nat) (nI cs)) [a0, a1, a2, a3, a4, some (.own (.lst (nI L))), x6, x7, a8] =
      .ok .nx [a0, a1, a2, a3, a4, some (.own (.lst (nI (L ++ row ((List.range' o cs.length).zip cs))))), x6', x7', a8]
  | [], o, L, x6, x7, _, _ => ⟨x6, x7, fun h => ⟨h, by simp [nI, enumL, forL, row]⟩⟩
  | c :: cs, o, L, x6, x7, hc, hz => by
    have h1 := hc c (by simp)
    simp only [List.sum_cons] at hz
    obtain ⟨y6, y7, e⟩ := for_row a0 a1 a2 a3 a4 a8 cs (o + 1) (L ++ List.replicate c o) (some (.pv (.int (o : Nat)))) (some (.pv (.int (c : Nat)))) (fun z hzz => hc z (by simp [hzz])) (by simp; omega)
    refine ⟨y6, y7, fun hx => ?_⟩
    obtain ⟨e1, e2⟩ := e (fun q => by simp)
    refine ⟨e1, ?_⟩
    have hs : enumL (o : Nat) (nI (c :: cs)) = .tup [.int (o : Nat), .int (c : Nat)] :: enumL ((o + 1 : Nat) : Int) (nI cs) := by
      show PV.tup [.int (o : Nat), .int (c : Nat)] :: enumL ((o : Int) + 1) (nI cs) = _
      rw [Int.natCast_add]; rfl
    have hr : L ++ row ((List.range' o (c :: cs).length).zip (c :: cs)) = (L ++ List.replicate c o) ++ row ((List.range' (o + 1) cs.length).zip cs) := by
      simp [List.range'_succ, row]
    rw [hs, hr, ← e2]
    refine forL_nx (ρ1 := [a0, a1, a2, a3, a4, some (.own (.lst (nI L))), some (.pv (.int (o : Nat))), some (.pv (.int (c : Nat))), a8]) (by simp [bT, bTs]) ?_
    have hm : -1000000 ≤ (c : Int) ∧ (c : Int) ≤ 1000000 ∧ 1 * (c : Int).toNat ≤ 1000000 := by omega
    have hl : (nI L).length + (nI (List.replicate c o)).length ≤ szL := by rw [nI_len, nI_len, List.length_replicate]; unfold szL; omega
    have hm2 : mulV (.lst [.int (o : Nat)]) (.int (c : Nat)) = some (.own (.lst (nI (List.replicate c o)))) := by
      rw [← nI_rep]
      simp only [mulV, List.length_cons, List.length_nil]
      rw [if_pos (by omega)]
    have ha2 : addV (.lst (nI L)) (.lst (nI (List.replicate c o))) = some (.own (.lst (nI (L ++ List.replicate c o)))) := by
      rw [nI_append]
      simp only [addV]
      rw [if_pos hl]
    simp [-mulV, -addV, bT, binV, hm2, ha2]
theorem filter_count (l : List Nat) (i : Nat) : ((nI l).filter fun x => match x with | .int j => j == (i : Int) | _ => false).length = l.count i := by
  induction l with
  | nil => rfl
  | cons c l ih =>
    show (List.filter _ (PV.int (c : Nat) :: nI l)).length = _
    rw [List.filter_cons, List.count_cons]
    by_cases h : c = i
    · subst h; simp [ih]
    · have : ¬ (c : Int) = i := by omega
      simp [ih, h, this]
/-- one step of the second loop -/
theorem tick_count (a0 a1 a2 a3 : Option XV) (acc ln : List Nat) (X5 : XV) (h5 : X5 = .pv (.lst (nI ln)) ∨ X5 = .own (.lst (nI ln))) (hln : ln.length ≤ 100000) (d i : Nat) (hd : d ≤ ln.length) (x7 : Option XV) (h7 : ∀ q, x7 ≠ some (.own q)) (hacc : acc.length ≤ 1000) :
    (sAsg (.nm 4) (eBin (binV .Add) (oVar 4) (oE (eTup [eUn lenV (oE (eLc [7] (srE (eSl (oVar 5) (poI (oVar 8)) (poN))) (.nm 7) (tCmp (cmpV .Eq) (oVar 7) (oVar 6)) (eVar 7)))])))) [a0, a1, a2, a3, some (.pv (.tup (nI acc))), some X5, some (.pv (.int (i : Nat))), x7, some (.pv (.int (d : Nat)))] =
      .ok .nx [a0, a1, a2, a3, some (.pv (.tup (nI (acc ++ [(ln.drop d).count i])))), some X5, some (.pv (.int (i : Nat))), x7, some (.pv (.int (d : Nat)))] := by
  have hcut : cut (nI ln) (some (d : Int)) none = nI (ln.drop d) := by
    rw [cut_from _ _ (by rw [nI_len]; exact hd)]
    simp [nI]
  let ρ0 : Pi.Env := [a0, a1, a2, a3, some (.pv (.tup (nI acc))), some X5, some (.pv (.int (i : Nat))), none, some (.pv (.int (d : Nat)))]
  have hf := lcL_filter (vs := [7]) (t := .nm 7) (tst := tCmp (cmpV .Eq) (oVar 7) (oVar 6)) (e := eVar 7) (ρ := ρ0) (f := fun x => x) (p := fun x => match x with | .int j => j == (i : Int) | _ => false) (xs := nI (ln.drop d)) ?_
  · have hcnt := filter_count (ln.drop d) i
    have hlen : ((nI (ln.drop d)).filter fun x => match x with | .int j => j == (i : Int) | _ => false).length ≤ szL := by
      have := List.length_filter_le (fun x => match x with | .int j => j == (i : Int) | _ => false) (nI (ln.drop d))
      rw [nI_len, List.length_drop] at this
      unfold szL
      omega
    rw [List.map_id'] at hf
    have hlc : eLc [7] (srE (eSl (oVar 5) (poI (oVar 8)) (poN))) (.nm 7) (tCmp (cmpV .Eq) (oVar 7) (oVar 6)) (eVar 7) [a0, a1, a2, a3, some (.pv (.tup (nI acc))), some X5, some (.pv (.int (i : Nat))), x7, some (.pv (.int (d : Nat)))] =
        .ok (.own (.lst ((nI (ln.drop d)).filter fun x => match x with | .int j => j == (i : Int) | _ => false))) [a0, a1, a2, a3, some (.pv (.tup (nI acc))), some X5, some (.pv (.int (i : Nat))), x7, some (.pv (.int (d : Nat)))] := by
      have hsrc : srE (eSl (oVar 5) (poI (oVar 8)) (poN)) [a0, a1, a2, a3, some (.pv (.tup (nI acc))), some X5, some (.pv (.int (i : Nat))), x7, some (.pv (.int (d : Nat)))] = .ok (nI (ln.drop d)) [a0, a1, a2, a3, some (.pv (.tup (nI acc))), some X5, some (.pv (.int (i : Nat))), x7, some (.pv (.int (d : Nat)))] := by
        rcases h5 with rfl | rfl <;> simp [hcut]
      have hno : noOwn [7] [a0, a1, a2, a3, some (.pv (.tup (nI acc))), some X5, some (.pv (.int (i : Nat))), x7, some (.pv (.int (d : Nat)))] = true := by
        cases x7 with
        | none => simp
        | some q =>
          cases q with
          | pv q => simp
          | own q => exact absurd rfl (h7 q)
      have hw : Pi.wipe [7] [a0, a1, a2, a3, some (.pv (.tup (nI acc))), some X5, some (.pv (.int (i : Nat))), x7, some (.pv (.int (d : Nat)))] = ρ0 := by simp [ρ0]
      unfold eLc
      rw [hsrc]
      simp only [Out.bd]
      rw [hno, if_pos rfl, hw, hf]
      simp only [nox, Out.bd]
      rw [if_pos hlen]
      cases x7 <;> simp [ρ0]
    have hz : (nI acc).length + 1 ≤ szL := by rw [nI_len]; unfold szL; omega
    simp [bT, binV, hlc, hcnt, hz, nI_append]
    rfl
  · intro x hx
    obtain ⟨c, hc, rfl⟩ := List.mem_map.mp hx
    refine ⟨[a0, a1, a2, a3, some (.pv (.tup (nI acc))), some X5, some (.pv (.int (i : Nat))), some (.pv (.int (c : Nat))), some (.pv (.int (d : Nat)))], [a0, a1, a2, a3, some (.pv (.tup (nI acc))), some X5, some (.pv (.int (i : Nat))), some (.pv (.int (c : Nat))), some (.pv (.int (d : Nat)))], .pv (.int (c : Nat)), by simp [bT, ρ0], ?_, by simp [ρ0], fun _ => ⟨by simp, rfl, by simp [ρ0]⟩⟩
    simp [-eqV, cmpV, eqV_int]
end Law

namespace Law
open PySem Pi
abbrev cntBody : S := (sAsg (.nm 4) (eBin (binV .Add) (oVar 4) (oE (eTup [eUn lenV (oE (eLc [7] (srE (eSl (oVar 5) (poI (oVar 8)) (poN))) (.nm 7) (tCmp (cmpV .Eq) (oVar 7) (oVar 6)) (eVar 7)))]))))
theorem for_count (a0 a1 a2 a3 : Option XV) (ln : List Nat) (X5 : XV) (h5 : X5 = .pv (.lst (nI ln)) ∨ X5 = .own (.lst (nI ln))) (hln : ln.length ≤ 100000) (d : Nat) (hd : d ≤ ln.length) (x7 : Option XV) (h7 : ∀ q, x7 ≠ some (.own q)) :
    ∀ (m a : Nat) (acc : List Nat) (x6 : Option XV), acc.length + m ≤ 1000 → ∃ x6', forL (.nm 6) cntBody (nI (List.range' a m)) [a0, a1, a2, a3, some (.pv (.tup (nI acc))), some X5, x6, x7, some (.pv (.int (d : Nat)))] =
      .ok .nx [a0, a1, a2, a3, some (.pv (.tup (nI (acc ++ (List.range' a m).map fun i => (ln.drop d).count i)))), some X5, x6', x7, some (.pv (.int (d : Nat)))]
  | 0, a, acc, x6, _ => ⟨x6, by simp [nI, forL]⟩
  | m + 1, a, acc, x6, hm => by
    obtain ⟨y6, e⟩ := for_count a0 a1 a2 a3 ln X5 h5 hln d hd x7 h7 m (a + 1) (acc ++ [(ln.drop d).count a]) (some (.pv (.int (a : Nat)))) (by simp; omega)
    refine ⟨y6, ?_⟩
    rw [List.range'_succ, List.map_cons]
    show forL (.nm 6) cntBody (.int (a : Nat) :: nI (List.range' (a + 1) m)) _ = _
    have e' : acc ++ (ln.drop d).count a :: (List.range' (a + 1) m).map (fun i => (ln.drop d).count i) = (acc ++ [(ln.drop d).count a]) ++ (List.range' (a + 1) m).map (fun i => (ln.drop d).count i) := by simp
    rw [e', ← e]
    exact forL_nx (ρ1 := [a0, a1, a2, a3, some (.pv (.tup (nI acc))), some X5, some (.pv (.int (a : Nat))), x7, some (.pv (.int (d : Nat)))]) (by simp [bT]) (tick_count a0 a1 a2 a3 acc ln X5 h5 hln d a hd x7 h7 (by omega))
theorem src_len (a0 a1 a2 a4 a5 a6 a7 a8 : Option XV) (cs : List Nat) (h : cs.length ≤ 5) : srR1 (oE (eUn lenV (oVar 3))) [a0, a1, a2, some (.pv (.tup (nI cs))), a4, a5, a6, a7, a8] = .ok (nI (List.range' 0 cs.length)) [a0, a1, a2, some (.pv (.tup (nI cs))), a4, a5, a6, a7, a8] := by
  have g : rgOk 0 (cs.length : Int) = true := by simp [rgOk]; omega
  have hrg : rgL 0 (cs.length : Int) = nI (List.range' 0 cs.length) := by rw [rg_nI, List.range_eq_range']
  simp [nI_len, g, hrg]
section
variable {R : PV} {r0 r1 r2 r3 : Int} {s : Str} {S : List (List Int)}
theorem sum_le (b : Nat) : ∀ cs : List Nat, (∀ c ∈ cs, c ≤ b) → cs.sum ≤ b * cs.length
  | [], _ => by simp
  | c :: cs, h => by
    have h1 := h c (by simp)
    have h2 := sum_le b cs fun z hz => h z (by simp [hz])
    simp only [List.sum_cons, List.length_cons, Nat.mul_succ]
    omega
theorem run_law_tick (k : Nat) (h : Rl R r0 r1 r2 r3 s) (rn : List Nat) (S' : List (List Int)) (hl : rn.length ≤ 4) (hS : S'.length ≤ 3) (f : Nat) (hf : f ≤ 100) (hrn : ∀ c ∈ rn, c ≤ 100) :
    tab.run (k + 2) "_law_tick" [.pv R, .pv (sP ((rn.map fun c : Nat => (c : Int)) :: S')), .pv (.int (f : Nat))] = .ok (.pv (tickV (Dn r0 r1 ((f :: rn).sum : Nat)).toNat (leftN (isOld s) (Dn r0 r1 ((f :: rn).sum : Nat)).toNat (f :: rn)) ((rn.map fun c : Nat => (c : Int)) :: S'))) [none, none, none] := by
  have hb : ∀ c ∈ f :: rn, c ≤ 100 := fun c hc => by
    rcases List.mem_cons.mp hc with rfl | hc
    · exact hf
    · exact hrn c hc
  have hsum := sum_le 100 (f :: rn) hb
  have hlen : (f :: rn).length ≤ 5 := by simp; omega
  have hsum2 : (f :: rn).sum ≤ 500 := by omega
  have hDl := Dn_le h ((f :: rn).sum : Nat) (by omega)
  have hdone := run_law_done k h ((f :: rn).sum) (by omega)
  obtain ⟨D, hDn⟩ := Int.eq_ofNat_of_zero_le hDl.1
  rw [hDn] at hDl hdone ⊢
  rw [Int.toNat_natCast]
  have hlineL := lineN_len (isOld s) (f :: rn)
  have hcount : (List.range' 0 (f :: rn).length).map (fun i => ((lineN (isOld s) (f :: rn)).drop D).count i) = leftN (isOld s) D (f :: rn) := by
    apply List.ext_getElem
    · simp [leftN_len]
    · intro i h1 h2
      have hi : i < (f :: rn).length := by simpa using h1
      have := count_line (isOld s) D (f :: rn) i hi
      rw [List.getElem_map, List.getElem_range']
      simp only [Nat.zero_add, Nat.one_mul]
      rw [this, List.getD_eq_getElem?_getD, List.getElem?_eq_getElem h2]
      rfl
  have hlenL := leftN_len (isOld s) D (f :: rn)
  have hsP : sP ((rn.map fun c : Nat => (c : Int)) :: S') = .tup (PV.tup (nI rn) :: S'.map fun r => PV.tup (r.map PV.int)) := by
    unfold sP nI
    rw [List.map_cons, List.map_map]
    rfl
  generalize hleft : leftN (isOld s) D (f :: rn) = left at hcount hlenL ⊢
  have hdl : sP (((rn.map fun c : Nat => (c : Int)) :: S').drop 1 ++ [left.dropLast.map fun c : Nat => (c : Int)]) = .tup ((S'.map fun r => PV.tup (r.map PV.int)) ++ [PV.tup (nI left).dropLast]) := by
    unfold sP nI
    rw [List.drop_one, List.tail_cons, List.map_append, List.map_cons, List.map_nil, List.map_map, ← List.map_dropLast]
    rfl
  unfold tickV
  rw [hsP, hdl]
  have hT : (S'.map fun r => PV.tup (r.map PV.int)).length = S'.length := by simp
  generalize (S'.map fun r => PV.tup (r.map PV.int)) = T at hT ⊢
  have h0 : Pi.atI (PV.tup (nI rn) :: T) 0 = some (PV.tup (nI rn)) := atI_zero
  have z1 : 1 + rn.length ≤ szL := by unfold szL; omega
  have z2 : T.length + 1 ≤ szL := by unfold szL; omega
  have hlast := nI_last left (by rw [hlenL]; simp)
  have hcut := cut_last (nI left) (by rw [nI_len, hlenL]; simp)
  have hcut2 : cut (PV.tup (nI rn) :: T) (some 1) none = T := cut_from _ 1 (by simp)
  have hc : PV.int (f : Nat) :: nI rn = nI (f :: rn) := rfl
  have hR := h.eq
  have x5 : Pi.atI [PV.int r0, .int r1, .int r2, .int r3, .str s] 4 = some (.str s) := rfl
  have hE : eqV (.str s) (.str "new") = some (!isOld s) := by rcases h.hs with rfl | rfl <;> decide +kernel
  obtain ⟨x6, x7, e1⟩ := for_row (some (.pv R)) (some (.pv (.tup (PV.tup (nI rn) :: T)))) (some (.pv (.int (f : Nat)))) (some (.pv (.tup (nI (f :: rn))))) (some (.pv (.tup []))) none (f :: rn) 0 [] none none (fun c hc => by have := hb c hc; omega) (by simp only [List.length_nil]; omega)
  obtain ⟨h7, e1⟩ := e1 (fun q => by simp)
  have hrow : row ((List.range' 0 (f :: rn).length).zip (f :: rn)) = row (lab (f :: rn)) := by unfold lab; rw [List.range_eq_range']
  rw [hrow, List.nil_append] at e1
  have hlen0 : (nI []) = [] := rfl
  generalize hQ : (left.getD (left.length - 1) 0) = q at hlast ⊢
  have hold : ∃ X5 : XV, (X5 = .pv (.lst (nI (lineN (isOld s) (f :: rn)))) ∨ X5 = .own (.lst (nI (lineN (isOld s) (f :: rn))))) ∧ (sAsg (.nm 5) (eIf (tCmp (cmpV .Eq) (oE (eBin ixV (oVar 0) (oE (eC (.int (4)))))) (oE (eC (.str "new")))) (eVar 5) (eUn revV (oVar 5)))) [some (.pv R), some (.pv (.tup (PV.tup (nI rn) :: T))), some (.pv (.int (f : Nat))), some (.pv (.tup (nI (f :: rn)))), some (.pv (.tup [])), some (.own (.lst (nI (row (lab (f :: rn)))))), x6, x7, none] =
      .ok .nx [some (.pv R), some (.pv (.tup (PV.tup (nI rn) :: T))), some (.pv (.int (f : Nat))), some (.pv (.tup (nI (f :: rn)))), some (.pv (.tup [])), some X5, x6, x7, none] := by
    subst hR
    cases hh : isOld s with
    | false =>
      rw [hh] at hE
      exact ⟨.pv (.lst (nI (row (lab (f :: rn))))), .inl rfl, by simp [-eqV, cmpV, bT, x5, hE]⟩
    | true =>
      rw [hh] at hE
      refine ⟨.own (.lst (nI (row (lab (f :: rn))).reverse)), .inr rfl, ?_⟩
      have hrev : (nI (row (lab (f :: rn)))).reverse = nI (row (lab (f :: rn))).reverse := by simp [nI]
      simp [-eqV, cmpV, bT, x5, hE, hrev]
  obtain ⟨X5, hX, hst4⟩ := hold
  obtain ⟨y6, e2⟩ := for_count (some (.pv R)) (some (.pv (.tup (PV.tup (nI rn) :: T)))) (some (.pv (.int (f : Nat)))) (some (.pv (.tup (nI (f :: rn))))) (lineN (isOld s) (f :: rn)) X5 hX (by omega) D (by omega) x7 h7 (f :: rn).length 0 [] x6 (by simp only [List.length_nil]; omega)
  rw [List.nil_append, hcount] at e2
  generalize lineN (isOld s) (f :: rn) = ll at hX hlineL
  rw [← hlineL] at hdone
  have hlen5 : ∀ (b0 b1 b2 b3 b4 b6 b7 b8 : Option XV), eCall (tab.run (k + 1) "_law_done") [oPv (eVar 0), oPv (eUn lenV (oVar 5))] [some (.pv R), b1, b2, b3, b4, some X5, b6, b7, b8] = .ok (.pv (.int (D : Nat))) [some (.pv R), b1, b2, b3, b4, some X5, b6, b7, b8] := fun b0 b1 b2 b3 b4 b6 b7 b8 => by
    rcases hX with rfl | rfl <;> simp [nI_len, hdone]
  rw [r__law_tick]
  unfold b__law_tick
  refine runBody_ret (ρ0 := [some (.pv R), some (.pv (.tup (PV.tup (nI rn) :: T))), some (.pv (.int (f : Nat))), none, none, none, none, none, none]) (ρ' := [some (.pv R), some (.pv (.tup (PV.tup (nI rn) :: T))), some (.pv (.int (f : Nat))), some (.pv (.tup (nI (f :: rn)))), some (.pv (.tup (nI left))), some X5, y6, x7, some (.pv (.int (D : Nat)))]) rfl (by simp [ownsIn]) rfl ?_ (by simp [outsOf, List.range_succ])
  rw [sSeq_nx (ρ1 := [some (.pv R), some (.pv (.tup (PV.tup (nI rn) :: T))), some (.pv (.int (f : Nat))), some (.pv (.tup (nI (f :: rn)))), some (.pv (.tup [])), none, none, none, none]) (by simp [binV, h0, nI_len, z1, hc])]
  rw [sSeq_nx (ρ1 := [some (.pv R), some (.pv (.tup (PV.tup (nI rn) :: T))), some (.pv (.int (f : Nat))), some (.pv (.tup (nI (f :: rn)))), some (.pv (.tup [])), some (.own (.lst [])), none, none, none]) (by simp [bT])]
  rw [sSeq_nx (ρ1 := [some (.pv R), some (.pv (.tup (PV.tup (nI rn) :: T))), some (.pv (.int (f : Nat))), some (.pv (.tup (nI (f :: rn)))), some (.pv (.tup [])), some (.own (.lst (nI (row (lab (f :: rn)))))), x6, x7, none]) ?c3]
  case c3 =>
    have hs : srEnum (eVar 3) [some (.pv R), some (.pv (.tup (PV.tup (nI rn) :: T))), some (.pv (.int (f : Nat))), some (.pv (.tup (nI (f :: rn)))), some (.pv (.tup [])), some (.own (.lst [])), none, none, none] = .ok (enumL 0 (nI (f :: rn))) [some (.pv R), some (.pv (.tup (PV.tup (nI rn) :: T))), some (.pv (.int (f : Nat))), some (.pv (.tup (nI (f :: rn)))), some (.pv (.tup [])), some (.own (.lst [])), none, none, none] := by simp
    unfold sFor
    rw [hs]
    exact e1
  rw [sSeq_nx hst4]
  rw [sSeq_nx (ρ1 := [some (.pv R), some (.pv (.tup (PV.tup (nI rn) :: T))), some (.pv (.int (f : Nat))), some (.pv (.tup (nI (f :: rn)))), some (.pv (.tup [])), some X5, x6, x7, some (.pv (.int (D : Nat)))]) (by unfold sAsg; rw [hlen5 none]; simp [bT])]
  rw [sSeq_nx (ρ1 := [some (.pv R), some (.pv (.tup (PV.tup (nI rn) :: T))), some (.pv (.int (f : Nat))), some (.pv (.tup (nI (f :: rn)))), some (.pv (.tup (nI left))), some X5, y6, x7, some (.pv (.int (D : Nat)))]) ?c6]
  case c6 =>
    have hs := src_len (some (.pv R)) (some (.pv (.tup (PV.tup (nI rn) :: T)))) (some (.pv (.int (f : Nat)))) (some (.pv (.tup []))) (some X5) x6 x7 (some (.pv (.int (D : Nat)))) (f :: rn) (by omega)
    unfold sFor
    rw [hs]
    exact e2
  simp [binV, hlast, hcut, hcut2, z2]
end
end Law

namespace Law
open PySem Pi
section
variable {R : PV} {r0 r1 r2 r3 : Int} {s : Str} {S : List (List Int)}
theorem StOk.cons (h : Rl R r0 r1 r2 r3 s) (hS : StOk S r2 r3) : ∃ (rn : List Nat) (S' : List (List Int)), S = (rn.map fun c : Nat => (c : Int)) :: S' ∧ (rn.length : Int) = r2 - 1 ∧ (∀ c ∈ rn, c ≤ 13) ∧ S'.length ≤ 3 := by
  cases S with
  | nil => have := hS.len; have := h.a3; simp at *; omega
  | cons r S' =>
    obtain ⟨l1, l2⟩ := hS.row r (by simp)
    obtain ⟨rn, rfl⟩ := natsOf r fun x hx => (l2 x hx).1
    refine ⟨rn, S', rfl, by simpa using l1, fun c hc => ?_, ?_⟩
    · have := (l2 (c : Int) (List.mem_map.mpr ⟨c, hc, rfl⟩)).2; omega
    · have := hS.len; have := h.b3; simp at *; omega
/-- the state behind a tick -/
def nxS (r0 r1 : Int) (s : Str) (f : Nat) (S : List (List Int)) : List (List Int) :=
  S.drop 1 ++ [((leftN (isOld s) (Dn r0 r1 ((f :: (S.headD []).map Int.toNat).sum : Nat)).toNat (f :: (S.headD []).map Int.toNat)).dropLast.map fun c : Nat => (c : Int))]
theorem nxS_cons (f : Nat) (rn : List Nat) (S' : List (List Int)) : nxS r0 r1 s f ((rn.map fun c : Nat => (c : Int)) :: S') = S' ++ [((leftN (isOld s) (Dn r0 r1 ((f :: rn).sum : Nat)).toNat (f :: rn)).dropLast.map fun c : Nat => (c : Int))] := by
  have : (rn.map fun c : Nat => (c : Int)).map Int.toNat = rn := by
    rw [List.map_map]
    conv => rhs; rw [← List.map_id rn]
    apply List.map_congr_left
    intro a _
    simp
  unfold nxS
  rw [List.headD_cons, this, List.drop_one, List.tail_cons]
/-- one tick: what both answer, the state behind it, the count -/
theorem tick (h : Rl R r0 r1 r2 r3 s) (hS : StOk S r2 r3) (f : Nat) (hf : f ≤ 13) : ∃ (D L : Nat) (S2 : List (List Int)), S2 = nxS r0 r1 s f S ∧ StOk S2 r2 r3 ∧
    (∀ k, tab.run (k + 5) "storm_tick" [.pv R, .pv (sP S), .pv (.int (f : Nat))] = .ok (.pv (.tup [.int (D : Nat), .int (L : Nat), sP S2])) [none, none, none]) ∧
    (∀ k, tab.run (k + 3) "behind" [.pv R, .pv (sP S), .pv (.int (f : Nat))] = .ok (.pv (.tup [.int (D : Nat), .int (L : Nat), sP S2])) [none, none, none]) ∧
    (∀ k, tab.run (k + 2) "_law_tick" [.pv R, .pv (sP S), .pv (.int (f : Nat))] = .ok (.pv (.tup [.int (D : Nat), .int (L : Nat), sP S2])) [none, none, none]) ∧
    (f : Int) + (S.headD []).sum = (D : Int) + (L : Int) + (S2.getLastD []).sum ∧ D ≤ 100 ∧ L ≤ 13 := by
  obtain ⟨rn, S', rfl, hl, hb, hS'⟩ := StOk.cons h hS
  have hrl : rn.length ≤ 4 := by have := h.b2; omega
  have hbe := fun k => run_behind k h rn S' hrl hS' f
  have hti := fun k => run_law_tick k h rn S' hrl hS' f (by omega) (fun c hc => by have := hb c hc; omega)
  have hDl := Dn_le h ((f :: rn).sum : Nat) (by omega)
  rw [nxS_cons]
  obtain ⟨D, hDn⟩ := Int.eq_ofNat_of_zero_le hDl.1
  rw [hDn] at hDl
  simp only [hDn, Int.toNat_natCast] at hbe hti ⊢
  have hsumL := leftN_sum (isOld s) D (f :: rn) (by omega)
  have hlenL := leftN_len (isOld s) D (f :: rn)
  have hle := leftN_le (isOld s) D (f :: rn) 13 (fun c hc => by
    rcases List.mem_cons.mp hc with rfl | hc
    · exact hf
    · exact hb c hc)
  have hs5 := sum_le 13 (f :: rn) (fun c hc => by
    rcases List.mem_cons.mp hc with rfl | hc
    · exact hf
    · exact hb c hc)
  generalize leftN (isOld s) D (f :: rn) = left at hbe hti hsumL hlenL hle ⊢
  unfold tickV at hbe hti
  have hne : left ≠ [] := fun e => by rw [e] at hlenL; simp at hlenL
  have hgl : left.getD (left.length - 1) 0 = left.getLast hne := by
    rw [List.getD_eq_getElem?_getD, List.getLast_eq_getElem, List.getElem?_eq_getElem (by have := List.length_pos_iff.mpr hne; omega)]
    rfl
  have hsp : left.sum = left.dropLast.sum + left.getLast hne := by
    have := congrArg List.sum (List.dropLast_concat_getLast hne)
    rw [List.sum_append] at this
    simpa using this.symm
  have hSt : StOk (S' ++ [left.dropLast.map fun c : Nat => (c : Int)]) r2 r3 := by
    refine ⟨by have := hS.len; simp at this ⊢; omega, fun r hr => ?_⟩
    rcases List.mem_append.mp hr with hr | hr
    · exact hS.row r (by simp [hr])
    · simp only [List.mem_singleton] at hr
      subst hr
      refine ⟨by simp only [List.length_map, List.length_dropLast]; rw [hlenL]; simp; omega, fun x hx => ?_⟩
      obtain ⟨c, hc, rfl⟩ := List.mem_map.mp hx
      have := hle c ((List.dropLast_sublist left).subset hc)
      omega
  refine ⟨D, left.getD (left.length - 1) 0, S' ++ [left.dropLast.map fun c : Nat => (c : Int)], rfl, hSt, fun k => ?_, hbe, hti, ?_, by simp only [List.length_cons] at hs5; omega, ?_⟩
  · rw [show k + 5 = (k + 4) + 1 from rfl, r_storm_tick]
    have q := hbe (k + 1)
    have n1 := run_need_state k h hS
    have n2 := run_need_fresh (k + 2) (f : Nat) (by omega) (by omega)
    simp [runBody, b_storm_tick, ownsIn, outsOf, List.range_succ, n1, n2]
    simp at q
    simp [q]
  · rw [hgl]
    have e1 := cast_sum rn
    have e2 := cast_sum left.dropLast
    have e3 : (S' ++ [left.dropLast.map fun c : Nat => (c : Int)]).getLastD [] = left.dropLast.map fun c : Nat => (c : Int) := by simp [List.getLastD_eq_getLast?]
    rw [e3, e2]
    show (f : Int) + (rn.map fun c : Nat => (c : Int)).sum = _
    rw [e1]
    simp only [List.sum_cons] at hsumL
    omega
  · rw [hgl]
    exact hle _ (List.getLast_mem hne)
end
end Law

namespace Law
open PySem Pi
section
variable {R : PV} {r0 r1 r2 r3 : Int} {s : Str} {S : List (List Int)}
theorem sP_k : KEnc sP := rowsP_k
/-- the states behind n ticks -/
def sq (r0 r1 : Int) (s : Str) (f : Nat) (S : List (List Int)) : Nat → List (List Int)
  | 0 => S
  | n + 1 => nxS r0 r1 s f (sq r0 r1 s f S n)
theorem sq_ok (h : Rl R r0 r1 r2 r3 s) (hS : StOk S r2 r3) (f : Nat) (hf : f ≤ 13) : ∀ n, StOk (sq r0 r1 s f S n) r2 r3
  | 0 => hS
  | n + 1 => by
    obtain ⟨D, L, S2, rfl, h1, _⟩ := tick h (sq_ok h hS f hf n) f hf
    exact h1
theorem round_step (k : Nat) (h : Rl R r0 r1 r2 r3 s) (hS : StOk S r2 r3) (f : Nat) (hf : f ≤ 13) {n : Nat} (hn : sqHit (sq r0 r1 s f S) n = none) (hb : n < 2000) :
    storm_round_W1t (tab.run (k + 3)) [some (.pv R), some (.pv (sP (sq r0 r1 s f S n))), some (.pv (.int (f : Nat))), some (.own (.dic (sqD (sq r0 r1 s f S) sP n))), some (.pv (.int (n : Nat)))] = .ok true [some (.pv R), some (.pv (sP (sq r0 r1 s f S n))), some (.pv (.int (f : Nat))), some (.own (.dic (sqD (sq r0 r1 s f S) sP n))), some (.pv (.int (n : Nat)))] ∧
    storm_round_W1 (tab.run (k + 3)) [some (.pv R), some (.pv (sP (sq r0 r1 s f S n))), some (.pv (.int (f : Nat))), some (.own (.dic (sqD (sq r0 r1 s f S) sP n))), some (.pv (.int (n : Nat)))] = .ok .nx [some (.pv R), some (.pv (sP (sq r0 r1 s f S (n + 1)))), some (.pv (.int (f : Nat))), some (.own (.dic (sqD (sq r0 r1 s f S) sP (n + 1)))), some (.pv (.int ((n + 1 : Nat) : Int)))] := by
  have e1 := notIn_sqD sP_k (sq r0 r1 s f S) n
  rw [hn] at e1
  obtain ⟨D, L, S2, hq, _, _, e2, _⟩ := tick h (sq_ok h hS f hf n) f hf
  have e2 := e2 k
  have hz : n < szL := by unfold szL; omega
  have hne : ((n : Int) == 2000) = false := by
    rw [beq_eq_false_iff_ne]; omega
  have e4 := set_sqD sP_k (sq r0 r1 s f S) (i := 3) (ρ := [some (.pv R), some (.pv (sP (sq r0 r1 s f S n))), some (.pv (.int (f : Nat))), some (.own (.dic (sqD (sq r0 r1 s f S) sP n))), some (.pv (.int (n : Nat)))]) hn hz rfl
  have i2 : ixV (.tup [.int (D : Nat), .int (L : Nat), sP S2]) (.int 2) = some (.pv (sP S2)) := rfl
  have hq2 : sq r0 r1 s f S (n + 1) = S2 := hq.symm
  rw [hq2]
  constructor
  · simp [storm_round_W1t, e1]
  · have s1 : sIf (tCmp (cmpV .Eq) (oVar 4) (oE (eC (.int (2000))))) (sBad) (sNx) [some (.pv R), some (.pv (sP (sq r0 r1 s f S n))), some (.pv (.int (f : Nat))), some (.own (.dic (sqD (sq r0 r1 s f S) sP n))), some (.pv (.int (n : Nat)))] = .ok .nx [some (.pv R), some (.pv (sP (sq r0 r1 s f S n))), some (.pv (.int (f : Nat))), some (.own (.dic (sqD (sq r0 r1 s f S) sP n))), some (.pv (.int (n : Nat)))] := by
      simp [-eqV, cmpV, eqV_int, hne]
    have s2 : sStI 3 (oVar 1) (eVar 4) [some (.pv R), some (.pv (sP (sq r0 r1 s f S n))), some (.pv (.int (f : Nat))), some (.own (.dic (sqD (sq r0 r1 s f S) sP n))), some (.pv (.int (n : Nat)))] = .ok .nx [some (.pv R), some (.pv (sP (sq r0 r1 s f S n))), some (.pv (.int (f : Nat))), some (.own (.dic (sqD (sq r0 r1 s f S) sP (n + 1)))), some (.pv (.int (n : Nat)))] := by
      simp [e4]
    unfold storm_round_W1
    rw [sSeq_nx s1, sSeq_nx s2]
    simp [-ixV, bT, binV, e2, i2]
theorem round_loop (k : Nat) (h : Rl R r0 r1 r2 r3 s) (hS : StOk S r2 r3) (f : Nat) (hf : f ≤ 13) (m : Nat) (hm : m < 2000) (hN : ∀ i < m, sqHit (sq r0 r1 s f S) i = none) (hh : (sqHit (sq r0 r1 s f S) m).isSome = true) : ∀ d n F, n + d = m → d < F →
    whl (storm_round_W1t (tab.run (k + 3))) (storm_round_W1 (tab.run (k + 3))) F [some (.pv R), some (.pv (sP (sq r0 r1 s f S n))), some (.pv (.int (f : Nat))), some (.own (.dic (sqD (sq r0 r1 s f S) sP n))), some (.pv (.int (n : Nat)))] = .ok .nx [some (.pv R), some (.pv (sP (sq r0 r1 s f S m))), some (.pv (.int (f : Nat))), some (.own (.dic (sqD (sq r0 r1 s f S) sP m))), some (.pv (.int (m : Nat)))]
  | 0, n, F + 1, hd, hf => by
    obtain rfl : n = m := by omega
    have e1 := notIn_sqD sP_k (sq r0 r1 s f S) n
    rw [hh] at e1
    exact whl_end (by simp [storm_round_W1t, e1])
  | d + 1, n, F + 1, hd, hF => by
    obtain ⟨h1, h2⟩ := round_step k h hS f hf (hN n (by omega)) (by omega)
    rw [whl_step h1 h2]
    exact round_loop k h hS f hf m hm hN hh d (n + 1) F (by omega) (by omega)
theorem run_round (k : Nat) (h : Rl R r0 r1 r2 r3 s) (hS : StOk S r2 r3) (f : Nat) (hf : f ≤ 13) {m j : Nat} (hm : m < 2000) (hN : ∀ i < m, sqHit (sq r0 r1 s f S) i = none) (hj : sqHit (sq r0 r1 s f S) m = some j) :
    tab.run (k + 5) "storm_round" [.pv R, .pv (sP S), .pv (.int (f : Nat))] = .ok (.pv (.tup [.int (j : Nat), .int ((m : Int) - (j : Nat))])) [none, none, none] := by
  have e := round_loop (k + 1) h hS f hf m hm hN (by rw [hj]; rfl) m 0 100000 (by omega) (by omega)
  have g := ix_sqD sP_k (sq r0 r1 s f S) hj
  have n1 := run_need_state k h hS
  have n2 := run_need_fresh (k + 2) (f : Nat) (by omega) (by omega)
  rw [r_storm_round]
  unfold b_storm_round
  have a1 : sExpr (eCall (tab.run (k + 4) "need_state") [oPv (eVar 0), oPv (eVar 1)]) [some (.pv R), some (.pv (sP S)), some (.pv (.int (f : Nat))), none, none] = .ok .nx [some (.pv R), some (.pv (sP S)), some (.pv (.int (f : Nat))), none, none] := by
    simp [n1]
  have a2 : sExpr (eCall (tab.run (k + 4) "need_fresh") [oPv (eVar 2)]) [some (.pv R), some (.pv (sP S)), some (.pv (.int (f : Nat))), none, none] = .ok .nx [some (.pv R), some (.pv (sP S)), some (.pv (.int (f : Nat))), none, none] := by
    simp [n2]
  have e0 : sPar [.nm 3, .nm 4] [eDic0, eC (.int (0))] [some (.pv R), some (.pv (sP S)), some (.pv (.int (f : Nat))), none, none] = .ok .nx [some (.pv R), some (.pv (sP (sq r0 r1 s f S 0))), some (.pv (.int (f : Nat))), some (.own (.dic (sqD (sq r0 r1 s f S) sP 0))), some (.pv (.int ((0 : Nat) : Int)))] := by
    simp [sq, sqD]
  refine runBody_ret (ρ0 := [some (.pv R), some (.pv (sP S)), some (.pv (.int (f : Nat))), none, none]) (ρ' := [some (.pv R), some (.pv (sP (sq r0 r1 s f S m))), some (.pv (.int (f : Nat))), some (.own (.dic (sqD (sq r0 r1 s f S) sP m))), some (.pv (.int (m : Nat)))]) rfl (by simp [ownsIn]) rfl ?_ (by simp [outsOf, List.range_succ])
  rw [sSeq_nx a1, sSeq_nx a2, sSeq_nx e0, sSeq_nx (ρ1 := [some (.pv R), some (.pv (sP (sq r0 r1 s f S m))), some (.pv (.int (f : Nat))), some (.own (.dic (sqD (sq r0 r1 s f S) sP m))), some (.pv (.int (m : Nat)))]) e]
  simp [-ixV, binV, g]
/-! ### _law_line -/
theorem line_step (k : Nat) (h : Rl R r0 r1 r2 r3 s) (hS : StOk S r2 r3) (f : Nat) (hf : f ≤ 13) {n : Nat} (hn : sqHit (sq r0 r1 s f S) n = none) (hb : n < 400) (x4 : Option XV) (x : PV) :
    fStep (.nm 4) (_law_line_L1 (tab.run (k + 2))) x [some (.pv R), some (.pv (sP (sq r0 r1 s f S n))), some (.pv (.int (f : Nat))), some (.own (.lst (sqL (sq r0 r1 s f S) sP n))), x4] = .ok .nx [some (.pv R), some (.pv (sP (sq r0 r1 s f S (n + 1)))), some (.pv (.int (f : Nat))), some (.own (.lst (sqL (sq r0 r1 s f S) sP (n + 1)))), some (.pv x)] := by
  have e1 := in_sqL sP_k (sq r0 r1 s f S) n
  rw [hn] at e1
  obtain ⟨D, L, S2, hq, _, _, _, e2, _⟩ := tick h (sq_ok h hS f hf n) f hf
  have e2 := e2 k
  have hz : n + 1 ≤ szL := by unfold szL; omega
  have i2 : ixV (.tup [.int (D : Nat), .int (L : Nat), sP S2]) (.int 2) = some (.pv (sP S2)) := rfl
  have hq2 : sq r0 r1 s f S (n + 1) = S2 := hq.symm
  rw [hq2, sqL_succ]
  have hl := sqL_len (enc := sP) (sq r0 r1 s f S) n
  unfold fStep _law_line_L1
  simp [-ixV, -inV, cmp_in, bT, binV, e1, e2, i2, hl, hz]
theorem line_end (k : Nat) {f n j : Nat} (hn : sqHit (sq r0 r1 s f S) n = some j) (x4 : Option XV) (x : PV) :
    fStep (.nm 4) (_law_line_L1 (tab.run k)) x [some (.pv R), some (.pv (sP (sq r0 r1 s f S n))), some (.pv (.int (f : Nat))), some (.own (.lst (sqL (sq r0 r1 s f S) sP n))), x4] = .ok (.ret (.pv (.tup [.lst (sqL (sq r0 r1 s f S) sP n), .int (j : Nat)]))) [some (.pv R), some (.pv (sP (sq r0 r1 s f S n))), some (.pv (.int (f : Nat))), some (.pv (.lst (sqL (sq r0 r1 s f S) sP n))), some (.pv x)] := by
  have e1 := in_sqL sP_k (sq r0 r1 s f S) n
  rw [hn] at e1
  have e3 := index_sqL sP_k (sq r0 r1 s f S) n
  rw [hn] at e3
  unfold fStep _law_line_L1
  simp [-ixV, -inV, -indexV, cmp_in, bT, binV, e1, e3]
theorem line_some (k : Nat) (h : Rl R r0 r1 r2 r3 s) (hS : StOk S r2 r3) (f : Nat) (hf : f ≤ 13) {m j : Nat} (hm : m < 400) (hN : ∀ i < m, sqHit (sq r0 r1 s f S) i = none) (hj : sqHit (sq r0 r1 s f S) m = some j) : ∀ (d n : Nat) (x4 : Option XV), n + d = 400 → n ≤ m → ∃ x5,
    forL (.nm 4) (_law_line_L1 (tab.run (k + 2))) ((List.range' n d).map fun i : Nat => PV.int (i : Int)) [some (.pv R), some (.pv (sP (sq r0 r1 s f S n))), some (.pv (.int (f : Nat))), some (.own (.lst (sqL (sq r0 r1 s f S) sP n))), x4] = .ok (.ret (.pv (.tup [.lst (sqL (sq r0 r1 s f S) sP m), .int (j : Nat)]))) [some (.pv R), some (.pv (sP (sq r0 r1 s f S m))), some (.pv (.int (f : Nat))), some (.pv (.lst (sqL (sq r0 r1 s f S) sP m))), x5]
  | 0, n, x4, hd, hn => by omega
  | d + 1, n, x4, hd, hn => by
    rw [List.range'_succ, List.map_cons]
    by_cases e : n = m
    · subst e
      exact ⟨_, forL_ret (line_end (k + 2) hj x4 _)⟩
    · rw [forL_step (line_step k h hS f hf (hN n (by omega)) (by omega) x4 _)]
      exact line_some k h hS f hf hm hN hj d (n + 1) _ (by omega) (by omega)
theorem line_none (k : Nat) (h : Rl R r0 r1 r2 r3 s) (hS : StOk S r2 r3) (f : Nat) (hf : f ≤ 13) (hN : ∀ i < 400, sqHit (sq r0 r1 s f S) i = none) : ∀ (d n : Nat) (x4 : Option XV), n + d = 400 → ∃ x5,
    forL (.nm 4) (_law_line_L1 (tab.run (k + 2))) ((List.range' n d).map fun i : Nat => PV.int (i : Int)) [some (.pv R), some (.pv (sP (sq r0 r1 s f S n))), some (.pv (.int (f : Nat))), some (.own (.lst (sqL (sq r0 r1 s f S) sP n))), x4] = .ok .nx [some (.pv R), some (.pv (sP (sq r0 r1 s f S 400))), some (.pv (.int (f : Nat))), some (.own (.lst (sqL (sq r0 r1 s f S) sP 400))), x5]
  | 0, n, x4, hd => by
    obtain rfl : n = 400 := by omega
    exact ⟨x4, rfl⟩
  | d + 1, n, x4, hd => by
    rw [List.range'_succ, List.map_cons]
    rw [forL_step (line_step k h hS f hf (hN n (by omega)) (by omega) x4 _)]
    exact line_none k h hS f hf hN d (n + 1) _ (by omega)
/-- what came, and where it began to come again -/
def lineV (q : Nat → List (List Int)) : PV := match sqEnd q 400 with
  | some m => .tup [.lst (sqL q sP m), .int ((sqHit q m).getD 0 : Nat)]
  | none => .tup [.lst (sqL q sP 400), .non]
theorem run_line (k : Nat) (h : Rl R r0 r1 r2 r3 s) (hS : StOk S r2 r3) (f : Nat) (hf : f ≤ 13) :
    tab.run (k + 3) "_law_line" [.pv R, .pv (sP S), .pv (.int (f : Nat))] = .ok (.pv (lineV (sq r0 r1 s f S))) [none, none, none] := by
  rw [r__law_line]
  unfold b__law_line
  have e0 : sAsg (.nm 3) (eLst []) [some (.pv R), some (.pv (sP S)), some (.pv (.int (f : Nat))), none, none] = .ok .nx [some (.pv R), some (.pv (sP (sq r0 r1 s f S 0))), some (.pv (.int (f : Nat))), some (.own (.lst (sqL (sq r0 r1 s f S) sP 0))), none] := by
    simp [sq, sqL, bT]
  have hr : ∀ ρ, srR1 (oE (eC (.int (400)))) ρ = .ok ((List.range' 0 400).map fun i : Nat => PV.int (i : Int)) ρ := fun ρ => by
    rw [← List.range_eq_range', ← rgL_nat]
    rfl
  unfold lineV
  cases hE : sqEnd (sq r0 r1 s f S) 400 with
  | some m =>
    obtain ⟨h1, h2, j, h3, h4⟩ := sqEnd_some _ hE
    obtain ⟨x5, e⟩ := line_some k h hS f hf h1 h2 h3 400 0 none rfl (by omega)
    refine runBody_ret (ρ0 := [some (.pv R), some (.pv (sP S)), some (.pv (.int (f : Nat))), none, none]) (ρ' := [some (.pv R), some (.pv (sP (sq r0 r1 s f S m))), some (.pv (.int (f : Nat))), some (.pv (.lst (sqL (sq r0 r1 s f S) sP m))), x5]) rfl (by simp [ownsIn]) rfl ?_ (by simp [outsOf, List.range_succ])
    simp only [h3, Option.getD_some]
    rw [sSeq_nx e0]
    exact sSeq_ret (sFor_ok (hr _) e)
  | none =>
    obtain ⟨x5, e⟩ := line_none k h hS f hf (sqEnd_none _ hE) 400 0 none rfl
    refine runBody_ret (ρ0 := [some (.pv R), some (.pv (sP S)), some (.pv (.int (f : Nat))), none, none]) (ρ' := [some (.pv R), some (.pv (sP (sq r0 r1 s f S 400))), some (.pv (.int (f : Nat))), some (.pv (.lst (sqL (sq r0 r1 s f S) sP 400))), x5]) rfl (by simp [ownsIn]) rfl ?_ (by simp [outsOf, List.range_succ])
    rw [sSeq_nx e0, sSeq_nx (sFor_ok (hr _) e)]
    simp
end
end Law

namespace Law
open PySem Pi
/-- the counts that all calls together give -/
def cnt (o : Bool) (f calls : Nat) : Nat → List Nat → Nat → List Nat
  | 0, found, _ => found
  | m + 1, found, rest => if o then cnt o f calls m (found ++ [min f (calls - found.sum)]) rest else cnt o f calls m (found ++ [found.getD (found.length - 1) 0 - min rest (found.getD (found.length - 1) 0)]) (rest - min rest (found.getD (found.length - 1) 0))
theorem cnt_len (o : Bool) (f calls : Nat) : ∀ (m : Nat) (found : List Nat) (rest : Nat), (cnt o f calls m found rest).length = found.length + m
  | 0, _, _ => rfl
  | m + 1, found, rest => by
    rw [cnt]
    split <;> rw [cnt_len] <;> simp <;> omega
def cntR (r0 r1 : Int) (s : Str) (f t c : Nat) : List Nat := cnt (isOld s) f c t [f] (Dn r0 r1 c).toNat
def nxR (r0 r1 : Int) (s : Str) (cs : List Nat) : List Nat := (leftN (isOld s) (Dn r0 r1 (cs.sum : Nat)).toNat cs).dropLast
def steG (r0 r1 : Int) (s : Str) (f t c : Nat) : Option (List Nat) := if (cntR r0 r1 s f t c).sum = c ∧ nxR r0 r1 s (cntR r0 r1 s f t c) = (cntR r0 r1 s f t c).tail then some (cntR r0 r1 s f t c) else none
def steC (r0 r1 : Int) (s : Str) (f t : Nat) : List (List Nat) := (List.range' f (f * t + 1)).filterMap (steG r0 r1 s f t)
theorem eqV_nI (a b : List Nat) : eqV (.lst (nI a)) (.lst (nI b)) = some (decide (a = b)) := by
  have h : ∀ c : List Nat, nI c = (c.map fun x : Nat => (x : Int)).map PV.int := fun c => by rw [List.map_map]; rfl
  rw [h, h, eqV_lstI]
  congr 1
  apply Bool.eq_iff_iff.mpr
  rw [decide_eq_true_iff, decide_eq_true_iff]
  constructor
  · intro e
    have := congrArg (List.map Int.toNat) e
    simpa [List.map_map, Function.comp_def] using this
  · rintro rfl
    rfl
section
variable {R : PV} {r0 r1 r2 r3 : Int} {s : Str} {S : List (List Int)}
theorem counts_loop (k : Nat) (h : Rl R r0 r1 r2 r3 s) (f c : Nat) (x2 : Option XV) (hx2 : x2 = some (.pv (.int (c : Nat)))) : ∀ (m F : Nat) (found : List Nat) (rest : Nat) (x5 : Option XV), 0 < found.length → (found.length : Int) + m = r2 → m < F → ∃ x4' x5',
    whl (counts_for_W1t (tab.run k)) (counts_for_W1 (tab.run k)) F [some (.pv R), some (.pv (.int (f : Nat))), x2, some (.own (.lst (nI found))), some (.pv (.int (rest : Nat))), x5] =
      .ok .nx [some (.pv R), some (.pv (.int (f : Nat))), x2, some (.own (.lst (nI (cnt (isOld s) f c m found rest)))), x4', x5']
  | 0, F + 1, found, rest, x5, h0, hl, hF => by
    have i2 : ixV R (.int 2) = some (.pv (.int r2)) := by rw [h.eq]; rfl
    refine ⟨some (.pv (.int (rest : Nat))), x5, ?_⟩
    rw [cnt]
    refine whl_end ?_
    have : ¬ ((found.length : Int) < r2) := by omega
    simp [-ixV, counts_for_W1t, cmp_lt, ltV, i2, nI_len, this]
  | m + 1, F + 1, found, rest, x5, h0, hl, hF => by
    have i2 : ixV R (.int 2) = some (.pv (.int r2)) := by rw [h.eq]; rfl
    have i4 : ixV R (.int 4) = some (.pv (.str s)) := by rw [h.eq]; rfl
    have hlt : ((found.length : Int) < r2) := by omega
    have hsl : found.length < szL := by have := h.b2; unfold szL; omega
    have il : ixV (.lst (nI found)) (.int (-1)) = some (.pv (.int (found.getD (found.length - 1) 0 : Nat))) := by
      have := nI_last found h0
      simp only [ixV, this, Option.map_some]
    have ht : counts_for_W1t (tab.run k) [some (.pv R), some (.pv (.int (f : Nat))), x2, some (.own (.lst (nI found))), some (.pv (.int (rest : Nat))), x5] = .ok true [some (.pv R), some (.pv (.int (f : Nat))), x2, some (.own (.lst (nI found))), some (.pv (.int (rest : Nat))), x5] := by
      simp [-ixV, counts_for_W1t, cmp_lt, ltV, i2, nI_len, hlt]
    subst hx2
    have hsum : sumV (.lst (nI found)) = some (.pv (.int (found.sum : Nat))) := by simp only [sumV, items, Option.bind_some, nI_sum, Option.map_some, cast_sum]
    rcases h.hs with hs | hs
    · have io : isOld s = false := by rw [hs]; rfl
      have es : eqV (.str s) (.str "new") = some true := by rw [hs]; decide +kernel
      have eb : counts_for_W1 (tab.run k) [some (.pv R), some (.pv (.int (f : Nat))), some (.pv (.int (c : Nat))), some (.own (.lst (nI found))), some (.pv (.int (rest : Nat))), x5] =
          .ok .nx [some (.pv R), some (.pv (.int (f : Nat))), some (.pv (.int (c : Nat))), some (.own (.lst (nI (found ++ [found.getD (found.length - 1) 0 - min rest (found.getD (found.length - 1) 0)])))), some (.pv (.int (rest - min rest (found.getD (found.length - 1) 0) : Nat))), some (.pv (.int (min rest (found.getD (found.length - 1) 0) : Nat)))] := by
        generalize found.getD (found.length - 1) 0 = q at il
        have c2 : ((rest : Nat) : Int) - ((min rest q : Nat) : Int) = ((rest - min rest q : Nat) : Int) := by omega
        have c3 : ((q : Nat) : Int) - ((min rest q : Nat) : Int) = ((q - min rest q : Nat) : Int) := by omega
        generalize hw : min rest q = w at c2 c3 ⊢
        have mn := min2_nat rest q
        rw [hw] at mn
        have s0 : ∀ ρ, ρ = [some (.pv R), some (.pv (.int (f : Nat))), some (.pv (.int (c : Nat))), some (.own (.lst (nI found))), some (.pv (.int (rest : Nat))), x5] → counts_for_W1 (tab.run k) ρ = ((sSeq (sAsg (.nm 5) (eBin min2V (oVar 4) (oE (eBin ixV (oVar 3) (oE (eUn negV (oE (eC (.int (1)))))))))) (sSeq (sAsg (.nm 4) (eBin (binV .Sub) (oVar 4) (oVar 5))) (sApp 3 (eBin (binV .Sub) (oE (eBin ixV (oVar 3) (oE (eUn negV (oE (eC (.int (1)))))))) (oVar 5))))) ρ) := by
          rintro ρ rfl
          unfold counts_for_W1
          simp only [sIf]
          simp [-ixV, -eqV, -sSeq, -min2V, cmp_eq, i4, es]
        rw [s0 _ rfl]
        have s1 : sAsg (.nm 5) (eBin min2V (oVar 4) (oE (eBin ixV (oVar 3) (oE (eUn negV (oE (eC (.int (1))))))))) [some (.pv R), some (.pv (.int (f : Nat))), some (.pv (.int (c : Nat))), some (.own (.lst (nI found))), some (.pv (.int (rest : Nat))), x5] = .ok .nx [some (.pv R), some (.pv (.int (f : Nat))), some (.pv (.int (c : Nat))), some (.own (.lst (nI found))), some (.pv (.int (rest : Nat))), some (.pv (.int (w : Nat)))] := by
          simp [-ixV, -min2V, bT, il, mn]
        have s2 : sAsg (.nm 4) (eBin (binV .Sub) (oVar 4) (oVar 5)) [some (.pv R), some (.pv (.int (f : Nat))), some (.pv (.int (c : Nat))), some (.own (.lst (nI found))), some (.pv (.int (rest : Nat))), some (.pv (.int (w : Nat)))] = .ok .nx [some (.pv R), some (.pv (.int (f : Nat))), some (.pv (.int (c : Nat))), some (.own (.lst (nI found))), some (.pv (.int ((rest - w : Nat) : Int))), some (.pv (.int (w : Nat)))] := by
          simp [-ixV, bT, binV, c2]
        rw [sSeq_nx s1, sSeq_nx s2]
        have s3 : nI found ++ [PV.int ((q - w : Nat) : Int)] = nI (found ++ [q - w]) := by simp [nI]
        rw [← s3]
        simp [-ixV, bT, binV, il, c3, nI_len, hsl]
      obtain ⟨x4', x5', e⟩ := counts_loop k h f c (some (.pv (.int (c : Nat)))) rfl m F (found ++ [found.getD (found.length - 1) 0 - min rest (found.getD (found.length - 1) 0)]) (rest - min rest (found.getD (found.length - 1) 0)) (some (.pv (.int (min rest (found.getD (found.length - 1) 0) : Nat)))) (by simp) (by rw [List.length_append, List.length_singleton]; omega) (by omega)
      refine ⟨x4', x5', ?_⟩
      rw [whl_step ht eb, e, cnt]
      simp [io]
    · have io : isOld s = true := by rw [hs]; rfl
      have es : eqV (.str s) (.str "new") = some false := by rw [hs]; decide +kernel
      have eb : counts_for_W1 (tab.run k) [some (.pv R), some (.pv (.int (f : Nat))), some (.pv (.int (c : Nat))), some (.own (.lst (nI found))), some (.pv (.int (rest : Nat))), x5] =
          .ok .nx [some (.pv R), some (.pv (.int (f : Nat))), some (.pv (.int (c : Nat))), some (.own (.lst (nI (found ++ [min f (c - found.sum)])))), some (.pv (.int (rest : Nat))), x5] := by
        have ms := max2_sub c found.sum
        generalize c - found.sum = u at ms ⊢
        have mn := min2_nat f u
        generalize min f u = w at mn ⊢
        have s3 : nI found ++ [PV.int ((w : Nat) : Int)] = nI (found ++ [w]) := by simp [nI]
        rw [← s3]
        unfold counts_for_W1
        simp [-ixV, -eqV, -sumV, -min2V, -max2V, cmp_eq, i4, es, hsum, binV, ms, mn, nI_len, hsl]
      obtain ⟨x4', x5', e⟩ := counts_loop k h f c (some (.pv (.int (c : Nat)))) rfl m F (found ++ [min f (c - found.sum)]) rest x5 (by simp) (by rw [List.length_append, List.length_singleton]; omega) (by omega)
      refine ⟨x4', x5', ?_⟩
      rw [whl_step ht eb, e, cnt]
      simp [io]
theorem run_counts (k : Nat) (h : Rl R r0 r1 r2 r3 s) (f c t : Nat) (ht : (t : Int) + 1 = r2) :
    tab.run (k + 2) "counts_for" [.pv R, .pv (.int (f : Nat)), .pv (.int (c : Nat))] = .ok (.own (.lst (nI (cntR r0 r1 s f t c)))) [none, none, none] := by
  have hd := run_done k h (c : Nat)
  have hDl := Dn_le h (c : Nat) (by omega)
  unfold cntR
  obtain ⟨D, hDn⟩ := Int.eq_ofNat_of_zero_le hDl.1
  rw [hDn] at hd ⊢
  rw [Int.toNat_natCast]
  obtain ⟨x4', x5', e⟩ := counts_loop (k + 1) h f c _ rfl t 100000 [f] D none (by simp) (by simp; omega) (by have := h.b2; omega)
  rw [r_counts_for]
  unfold b_counts_for
  have e0 : sPar [.nm 3, .nm 4] [eLst [eVar 1], eCall (tab.run (k + 1) "done_in") [oPv (eVar 0), oPv (eVar 2)]] [some (.pv R), some (.pv (.int (f : Nat))), some (.pv (.int (c : Nat))), none, none, none] = .ok .nx [some (.pv R), some (.pv (.int (f : Nat))), some (.pv (.int (c : Nat))), some (.own (.lst (nI [f]))), some (.pv (.int (D : Nat))), none] := by
    simp [bT, hd, nI]
  refine runBody_ret (ρ0 := [some (.pv R), some (.pv (.int (f : Nat))), some (.pv (.int (c : Nat))), none, none, none]) (ρ' := [some (.pv R), some (.pv (.int (f : Nat))), some (.pv (.int (c : Nat))), none, x4', x5']) rfl (by simp [ownsIn]) rfl ?_ (by simp [outsOf, List.range_succ])
  rw [sSeq_nx e0]
  rw [sSeq_nx (ρ1 := [some (.pv R), some (.pv (.int (f : Nat))), some (.pv (.int (c : Nat))), some (.own (.lst (nI (cnt (isOld s) f c t [f] D)))), x4', x5']) e]
  simp
def rowN (cs : List Nat) : PV := .tup (nI cs)
theorem steady_step (k : Nat) (h : Rl R r0 r1 r2 r3 s) (f c t : Nat) (ht : (t : Int) + 1 = r2) (L : List (List Nat)) (hL : L.length < 1000) (x3 x4 : Option XV) : ∃ x4',
    fStep (.nm 3) (steady_in_L1 (tab.run (k + 2))) (.int (c : Nat)) [some (.pv R), some (.pv (.int (f : Nat))), some (.own (.lst (L.map rowN))), x3, x4] = .ok .nx [some (.pv R), some (.pv (.int (f : Nat))), some (.own (.lst ((L ++ (steG r0 r1 s f t c).toList).map rowN))), some (.pv (.int (c : Nat))), x4'] := by
  have hc := run_counts k h f c t ht
  have hlen : (cntR r0 r1 s f t c).length = t + 1 := by
    unfold cntR
    rw [cnt_len]
    simp; omega
  have hl := run_left k h (cntR r0 r1 s f t c) (by have := h.b2; omega)
  unfold steG
  unfold nxR
  generalize cntR r0 r1 s f t c = cs at hc hl hlen ⊢
  have hs1 : sumV (.lst (nI cs)) = some (.pv (.int (cs.sum : Nat))) := by simp only [sumV, items, Option.bind_some, nI_sum, Option.map_some, cast_sum]
  have ll := leftN_len (isOld s) (Dn r0 r1 (cs.sum : Nat)).toNat cs
  generalize leftN (isOld s) (Dn r0 r1 (cs.sum : Nat)).toNat cs = left at hl ll ⊢
  have c1 := cut_last (nI left) (by rw [nI_len, ll, hlen]; omega)
  have c1' : (nI left).dropLast = nI left.dropLast := by unfold nI; rw [List.map_dropLast]
  have c2 : cut (nI cs) (some 1) none = nI cs.tail := by
    have := cut_from (nI cs) 1 (by rw [nI_len, hlen]; omega)
    unfold nI at this ⊢
    rw [List.map_tail, ← List.drop_one]
    exact this
  have s1 : sAsg (.nm 4) (eCall (tab.run (k + 2) "counts_for") [oPv (eVar 0), oPv (eVar 1), oPv (eVar 3)]) [some (.pv R), some (.pv (.int (f : Nat))), some (.own (.lst (L.map rowN))), some (.pv (.int (c : Nat))), x4] = .ok .nx [some (.pv R), some (.pv (.int (f : Nat))), some (.own (.lst (L.map rowN))), some (.pv (.int (c : Nat))), some (.own (.lst (nI cs)))] := by
    simp [bT, hc]
  have hL2 : L.length < szL := by unfold szL; omega
  by_cases h1 : cs.sum = c
  · by_cases h2 : left.dropLast = cs.tail
    · rw [if_pos ⟨h1, h2⟩]
      have e1 : ((cs.sum : Int) == (c : Int)) = true := by rw [h1]; simp
      have e2 := eqV_nI left.dropLast cs.tail
      rw [decide_eq_true h2] at e2
      refine ⟨some (.pv (.lst (nI cs))), ?_⟩
      simp only [fStep, bT, List.set_cons_zero, List.set_cons_succ, Out.bd, steady_in_L1]
      rw [sSeq_nx s1]
      simp [-eqV, -sumV, cmp_eq, eqV_int, hs1, e1, hl, c1, c2, c1', e2, hL2, rowN]
    · rw [if_neg (fun h => h2 h.2)]
      have e1 : ((cs.sum : Int) == (c : Int)) = true := by rw [h1]; simp
      have e2 := eqV_nI left.dropLast cs.tail
      rw [decide_eq_false h2] at e2
      refine ⟨some (.pv (.lst (nI cs))), ?_⟩
      simp only [fStep, bT, List.set_cons_zero, List.set_cons_succ, Out.bd, steady_in_L1]
      rw [sSeq_nx s1]
      simp [-eqV, -sumV, cmp_eq, eqV_int, hs1, e1, hl, c1, c2, c1', e2, hL2, rowN]
  · rw [if_neg (fun h => h1 h.1)]
    have e1 : ((cs.sum : Int) == (c : Int)) = false := by rw [beq_eq_false_iff_ne]; omega
    refine ⟨some (.own (.lst (nI cs))), ?_⟩
    simp only [fStep, bT, List.set_cons_zero, List.set_cons_succ, Out.bd, steady_in_L1]
    rw [sSeq_nx s1]
    simp [-eqV, -sumV, cmp_eq, eqV_int, hs1, e1]
end
end Law

namespace Law
open PySem Pi
section
variable {R : PV} {r0 r1 r2 r3 : Int} {s : Str} {S : List (List Int)}
theorem steady_loop (k : Nat) (h : Rl R r0 r1 r2 r3 s) (f t : Nat) (ht : (t : Int) + 1 = r2) : ∀ (cs : List Nat) (L : List (List Nat)) (x3 x4 : Option XV), L.length + cs.length < 1000 → ∃ x3' x4',
    forL (.nm 3) (steady_in_L1 (tab.run (k + 2))) (cs.map fun i : Nat => PV.int (i : Int)) [some (.pv R), some (.pv (.int (f : Nat))), some (.own (.lst (L.map rowN))), x3, x4] = .ok .nx [some (.pv R), some (.pv (.int (f : Nat))), some (.own (.lst ((L ++ cs.filterMap (steG r0 r1 s f t)).map rowN))), x3', x4']
  | [], L, x3, x4, hl => ⟨x3, x4, by simp [forL]⟩
  | c :: cs, L, x3, x4, hl => by
    simp only [List.length_cons] at hl
    obtain ⟨x4', e⟩ := steady_step k h f c t ht L (by omega) x3 x4
    have hg : (steG r0 r1 s f t c).toList.length ≤ 1 := by cases steG r0 r1 s f t c <;> simp
    obtain ⟨y3, y4, e2⟩ := steady_loop k h f t ht cs (L ++ (steG r0 r1 s f t c).toList) (some (.pv (.int (c : Nat)))) x4' (by rw [List.length_append]; omega)
    refine ⟨y3, y4, ?_⟩
    rw [List.map_cons, forL_step e, e2, List.filterMap_cons]
    cases steG r0 r1 s f t c <;> simp
theorem src_steady (h : Rl R r0 r1 r2 r3 s) (f d : Nat) (hmul : (f : Int) * r2 + 1 = (f : Int) + (d : Int)) (hf : f ≤ 13) (hd : d ≤ 100) (x2 x3 x4 : Option XV) : srR2 (oVar 1) (oE (eBin (binV .Add) (oE (eBin (binV .Mult) (oVar 1) (oE (eBin ixV (oVar 0) (oE (eC (.int (2)))))))) (oE (eC (.int (1)))))) [some (.pv R), some (.pv (.int (f : Nat))), x2, x3, x4] = .ok ((List.range' f d).map fun i : Nat => PV.int (i : Int)) [some (.pv R), some (.pv (.int (f : Nat))), x2, x3, x4] := by
  have i2 : ixV R (.int 2) = some (.pv (.int r2)) := by rw [h.eq]; rfl
  have hm : mulOk (f : Int) r2 = true := mul_small _ _ (by have := h.a2; omega) (by have := h.b2; omega)
  have hg : rgOk (f : Int) ((f : Int) + (d : Int)) = true := rg_small _ _ (by omega) (by omega) (by omega) (by omega)
  rw [← rgL_from]
  refine srR2_ok (ρ1 := [some (.pv R), some (.pv (.int (f : Nat))), x2, x3, x4]) (r := .v (.pv (.int (f : Nat)))) (q := .v (.pv (.int ((f : Int) + (d : Int))))) (by simp) ?_ (by simp) (by simp) hg
  rw [← hmul]
  have b1 := mul_int (f : Int) r2 hm
  exact oE_ok (eBin_ok (x := .int ((f : Int) * r2)) (y := .int 1) (oE_ok (eBin_ok (x := .int (f : Int)) (y := .int r2) rfl (oE_ok (eBin_ok (x := R) (y := .int 2) rfl rfl rfl rfl i2)) rfl rfl b1)) rfl rfl rfl rfl)
theorem run_steady (k : Nat) (h : Rl R r0 r1 r2 r3 s) (f t : Nat) (ht : (t : Int) + 1 = r2) (hf : f ≤ 13) :
    tab.run (k + 3) "steady_in" [.pv R, .pv (.int (f : Nat))] = .ok (.own (.lst ((steC r0 r1 s f t).map rowN))) [none, none] := by
  have i2 : ixV R (.int 2) = some (.pv (.int r2)) := by rw [h.eq]; rfl
  have ht2 : t ≤ 2 := by have := h.b2; omega
  have hft : f * t ≤ 26 := by
    have := Nat.mul_le_mul hf ht2
    omega
  obtain ⟨x3, x4, e⟩ := steady_loop k h f t ht (List.range' f (f * t + 1)) [] none none (by simp; omega)
  have hmul : (f : Int) * r2 + 1 = (f : Int) + ((f * t + 1 : Nat) : Int) := by
    rw [← ht, Int.mul_add, Int.mul_one]
    push_cast
    omega
  have hd : f * t + 1 ≤ 100 := by omega
  rw [r_steady_in]
  unfold b_steady_in
  have e0 : sAsg (.nm 2) (eLst []) [some (.pv R), some (.pv (.int (f : Nat))), none, none, none] = .ok .nx [some (.pv R), some (.pv (.int (f : Nat))), some (.own (.lst (([] : List (List Nat)).map rowN))), none, none] := by
    simp [bT]
  have hsrc := src_steady h f (f * t + 1) hmul hf hd
  refine runBody_ret (ρ0 := [some (.pv R), some (.pv (.int (f : Nat))), none, none, none]) (ρ' := [some (.pv R), some (.pv (.int (f : Nat))), none, x3, x4]) rfl (by simp [ownsIn]) rfl ?_ (by simp [outsOf, List.range_succ])
  rw [sSeq_nx e0, sSeq_nx (sFor_ok (hsrc _ _ _) e)]
  simp [steC]
/-- a state that stays -/
def stay (n : Nat) (row : List Nat) : List (List Int) := List.replicate n (row.map fun c : Nat => (c : Int))
theorem rep_one (n : Nat) (x : PV) : rep (n : Int) [x] = List.replicate n x := by
  unfold rep
  induction n with
  | zero => rfl
  | succ n ih =>
    rw [Int.toNat_natCast] at ih ⊢
    rw [List.replicate_succ, List.flatten_cons, ih, List.replicate_succ]
    rfl
theorem rowP_nI (row : List Nat) : PV.tup (nI row) = rowP (row.map fun c : Nat => (c : Int)) := by
  unfold rowP nI
  rw [List.map_map]
  rfl
theorem stay_P (n : Nat) (row : List Nat) : sP (stay n row) = .tup (rep (n : Int) [.tup (nI row)]) := by
  rw [rep_one, rowP_nI]
  show PV.tup ((stay n row).map rowP) = _
  unfold stay
  rw [List.map_replicate]
theorem steC_len (f t : Nat) : (steC r0 r1 s f t).length ≤ f * t + 1 := by
  unfold steC
  refine Nat.le_trans (List.length_filterMap_le _ _) ?_
  simp
def toldP (r0 r1 : Int) (s : Str) (n f t : Nat) : PV := .tup ((steC r0 r1 s f t).map fun cs => sP (stay n cs.tail))
theorem run_states (k : Nat) (h : Rl R r0 r1 r2 r3 s) (f t n : Nat) (ht : (t : Int) + 1 = r2) (hn : (n : Int) = r3) (hf : f ≤ 13) :
    tab.run (k + 4) "steady_states" [.pv R, .pv (.int (f : Nat))] = .ok (.pv (toldP r0 r1 s n f t)) [none, none] := by
  have i3 : ixV R (.int 3) = some (.pv (.int r3)) := by rw [h.eq]; rfl
  have ht2 : t ≤ 2 := by have := h.b2; omega
  have hft : f * t ≤ 26 := by
    have := Nat.mul_le_mul hf ht2
    omega
  have hl := steC_len (r0 := r0) (r1 := r1) (s := s) f t
  have hs := run_steady k h f t ht hf
  have n1 := run_need_rule k h
  have n2 := run_need_fresh (k + 1) (f : Nat) (by omega) (by omega)
  have m1 : -1000000 ≤ r3 ∧ r3 ≤ 1000 := by have := h.a3; have := h.b3; omega
  have hc : ∀ cs : List Nat, cs ∈ steC r0 r1 s f t → 0 < cs.length := fun cs hcs => by
    unfold steC at hcs
    obtain ⟨c, _, hc⟩ := List.mem_filterMap.mp hcs
    unfold steG at hc
    split at hc
    · cases hc
      unfold cntR
      rw [cnt_len]
      simp; omega
    · exact absurd hc (by simp)
  have hE := eLc_m (vs := [2]) (s := srE (eCall (tab.run (k + 3) "steady_in") [oPv (eVar 0), oPv (eVar 1)])) (t := .nm 2) (e := steady_states_C1 (tab.run (k + 3))) (ρ := [some (.pv R), some (.pv (.int (f : Nat))), none]) (ρ' := [some (.pv R), some (.pv (.int (f : Nat))), none]) (enc := rowN) (g := fun cs => sP (stay n cs.tail)) (l := steC r0 r1 s f t) (by simp [hs]) (by simp [noOwn]) ?_ (by unfold szL; omega)
  · rw [r_steady_states]
    unfold b_steady_states
    unfold toldP
    simp [runBody, ownsIn, outsOf, List.range_succ, n1, n2, hE]
  · intro cs hcs
    have c2 : cut (nI cs) (some 1) none = nI cs.tail := by
      have := cut_from (nI cs) 1 (by rw [nI_len]; exact hc cs hcs)
      unfold nI at this ⊢
      rw [List.map_tail, ← List.drop_one]
      exact this
    rw [stay_P, hn]
    simp [-ixV, lcStep, steady_states_C1, rowN, bT, binV, i3, c2, m1]
end
end Law

namespace Law
open PySem Pi
def rowsN (m : Nat) : Nat → List (List Nat)
  | 0 => [[]]
  | n + 1 => (rowsN m n).flatMap fun row => (List.range (m + 1)).map fun x => row ++ [x]
theorem rowsN_mem (m : Nat) : ∀ (n : Nat) (row : List Nat), row ∈ rowsN m n ↔ row.length = n ∧ ∀ x ∈ row, x ≤ m
  | 0, row => by
    simp [rowsN]
    rintro rfl
    simp
  | n + 1, row => by
    simp only [rowsN, List.mem_flatMap, rowsN_mem m n, List.mem_map, List.mem_range]
    constructor
    · rintro ⟨r, ⟨h1, h2⟩, x, hx, rfl⟩
      refine ⟨by simp [h1], fun y hy => ?_⟩
      rcases List.mem_append.mp hy with hy | hy
      · exact h2 y hy
      · simp at hy; omega
    · rintro ⟨h1, h2⟩
      have hne : row ≠ [] := by rintro rfl; simp at h1
      refine ⟨row.dropLast, ⟨by simp [h1], fun y hy => h2 y (List.dropLast_subset _ hy)⟩, row.getLast hne, ?_, List.dropLast_concat_getLast hne⟩
      have := h2 _ (List.getLast_mem hne)
      omega
theorem rowsN_len (m : Nat) : ∀ n, (rowsN m n).length = (m + 1) ^ n
  | 0 => rfl
  | n + 1 => by
    rw [rowsN, List.length_flatMap]
    simp only [List.length_map, List.length_range]
    rw [List.map_const', List.sum_replicate_nat, rowsN_len m n, Nat.pow_succ]
theorem rowsN_nodup (m : Nat) : ∀ n, (rowsN m n).Nodup
  | 0 => by simp [rowsN]
  | n + 1 => by
    rw [rowsN, List.nodup_iff_pairwise_ne, List.pairwise_flatMap]
    refine ⟨fun row _ => ?_, ?_⟩
    · rw [List.pairwise_map]
      refine List.Pairwise.imp ?_ (List.nodup_iff_pairwise_ne.mp (List.nodup_range))
      intro a b h e
      exact h (by simpa using e)
    · refine List.Pairwise.imp ?_ (List.nodup_iff_pairwise_ne.mp (rowsN_nodup m n))
      intro a b h x hx y hy e
      obtain ⟨i, _, rfl⟩ := List.mem_map.mp hx
      obtain ⟨j, _, rfl⟩ := List.mem_map.mp hy
      exact h (List.append_inj_left' e rfl)
section
theorem nI_snoc (row : List Nat) (x : Nat) : nI row ++ [PV.int (x : Nat)] = nI (row ++ [x]) := by simp [nI]
theorem rows_one (k : Nat) (row : List Nat) (hr : row.length ≤ 10) (m : Nat) (hm : m ≤ 13) (x0 x2 x3 x4 x6 : Option XV) (h6 : ∀ q, x6 ≠ some (.own q)) :
    eLc [6] (srR1 (oE (eBin (binV .Add) (oVar 1) (oE (eC (.int (1))))))) (.nm 6) (tYes) (_law_rows_C1 (tab.run k)) [x0, some (.pv (.int (m : Nat))), x2, x3, x4, some (.pv (rowN row)), x6] = .ok (.own (.lst (((List.range (m + 1)).map fun x => row ++ [x]).map rowN))) [x0, some (.pv (.int (m : Nat))), x2, x3, x4, some (.pv (rowN row)), x6] := by
  have hb : binV .Add (.int (m : Int)) (.int 1) = some (.pv (.int (((m + 1 : Nat)) : Int))) := by
    show some (XV.pv (.int _)) = _
    congr 1
  have hs : srR1 (oE (eBin (binV .Add) (oVar 1) (oE (eC (.int (1)))))) [x0, some (.pv (.int (m : Nat))), x2, x3, x4, some (.pv (rowN row)), x6] = .ok ((List.range (m + 1)).map fun i : Nat => PV.int (i : Int)) [x0, some (.pv (.int (m : Nat))), x2, x3, x4, some (.pv (rowN row)), x6] := by
    rw [← rgL_nat]
    exact srR1_ok (oE_ok (eBin_ok (x := .int (m : Nat)) (y := .int 1) rfl rfl rfl rfl hb)) rfl (rg_small _ _ (by omega) (by omega) (by omega) (by omega))
  have := eLc_m (vs := [6]) (t := .nm 6) (e := _law_rows_C1 (tab.run k)) (g := fun x : Nat => rowN (row ++ [x])) hs (by
    simp only [noOwn, List.all_cons, List.all_nil, List.getElem?_cons_succ, List.getElem?_cons_zero]
    rcases x6 with _ | _ | _
    · rfl
    · rfl
    · exact absurd rfl (h6 _)) ?_ (by simp; unfold szL; omega)
  · rw [this, List.map_map]
    rfl
  · intro x _
    have h1 := nI_snoc row x
    have h2 : (nI row).length ≤ 10 := by rw [nI_len]; exact hr
    have h3 : (nI row).length + 1 ≤ szL := by unfold szL; omega
    simp [lcStep, _law_rows_C1, bT, binV, rowN, h1, h3]
theorem rows_step (k : Nat) (row : List Nat) (hr : row.length ≤ 10) (m : Nat) (hm : m ≤ 13) (L : List (List Nat)) (hL : L.length ≤ 10000) (x0 x2 x3 x5 x6 : Option XV) (h6 : ∀ q, x6 ≠ some (.own q)) :
    fStep (.nm 5) (_law_rows_L1 (tab.run k)) (rowN row) [x0, some (.pv (.int (m : Nat))), x2, x3, some (.own (.lst (L.map rowN))), x5, x6] = .ok .nx [x0, some (.pv (.int (m : Nat))), x2, x3, some (.own (.lst ((L ++ (List.range (m + 1)).map fun x => row ++ [x]).map rowN))), some (.pv (rowN row)), x6] := by
  have e := rows_one k row hr m hm x0 x2 x3 (some (.own (.lst (L.map rowN)))) x6 h6
  refine fStep_ok rfl ?_
  unfold _law_rows_L1
  rw [List.map_append]
  have hl1 : (L.map rowN).length = L.length := List.length_map ..
  have hl2 : (((List.range (m + 1)).map fun x => row ++ [x]).map rowN).length = m + 1 := by simp
  generalize L.map rowN = A at e hl1 ⊢
  generalize ((List.range (m + 1)).map fun x => row ++ [x]).map rowN = B at e hl2 ⊢
  have hz : A.length + B.length ≤ szL := by unfold szL; omega
  exact sAsg_ok (eBin_ok (x := .lst A) (y := .lst B) rfl (oE_ok e) rfl rfl (add_lst hz)) rfl
theorem rows_loop (k m : Nat) (hm : m ≤ 13) (x0 x2 x3 x6 : Option XV) (h6 : ∀ q, x6 ≠ some (.own q)) : ∀ (rs : List (List Nat)) (L : List (List Nat)) (x5 : Option XV), (∀ r ∈ rs, r.length ≤ 10) → L.length + (m + 1) * rs.length ≤ 10000 → ∃ x5',
    forL (.nm 5) (_law_rows_L1 (tab.run k)) (rs.map rowN) [x0, some (.pv (.int (m : Nat))), x2, x3, some (.own (.lst (L.map rowN))), x5, x6] = .ok .nx [x0, some (.pv (.int (m : Nat))), x2, x3, some (.own (.lst ((L ++ rs.flatMap fun row => (List.range (m + 1)).map fun x => row ++ [x]).map rowN))), x5', x6]
  | [], L, x5, _, _ => ⟨x5, by simp [forL]⟩
  | r :: rs, L, x5, hr, hl => by
    rw [List.length_cons, Nat.mul_succ] at hl
    obtain ⟨y5, e⟩ := rows_loop k m hm x0 x2 x3 x6 h6 rs (L ++ (List.range (m + 1)).map fun x => r ++ [x]) (some (.pv (rowN r))) (fun r hr' => hr r (by simp [hr'])) (by simp; omega)
    refine ⟨y5, ?_⟩
    rw [List.map_cons, forL_step (rows_step k r (hr r (by simp)) m hm L (by omega) x0 x2 x3 x5 x6 h6), e, List.flatMap_cons, List.append_assoc]
def AnyL (x : XV) (l : PV) : Prop := x = .own l ∨ x = .pv l
theorem rows_outer (k m : Nat) (hm : m ≤ 13) : ∀ (d n : Nat) (X2 : XV) (x3 x4 x5 : Option XV), n + d ≤ 2 → AnyL X2 (.lst ((rowsN m n).map rowN)) → ∀ x0, ∃ X2' x3' x4' x5', AnyL X2' (.lst ((rowsN m (n + d)).map rowN)) ∧
    forL (.nm 3) (_law_rows_L2 (tab.run k)) ((List.range' n d).map fun i : Nat => PV.int (i : Int)) [x0, some (.pv (.int (m : Nat))), some X2, x3, x4, x5, none] = .ok .nx [x0, some (.pv (.int (m : Nat))), some X2', x3', x4', x5', none]
  | 0, n, X2, x3, x4, x5, _, h, x0 => ⟨X2, x3, x4, x5, h, rfl⟩
  | d + 1, n, X2, x3, x4, x5, hd, h, x0 => by
    have hlen : (rowsN m n).length ≤ 14 := by
      rw [rowsN_len]
      have : n = 0 ∨ n = 1 := by omega
      rcases this with rfl | rfl
      · simp
      · simp; omega
    have hbig : 0 + (m + 1) * (rowsN m n).length ≤ 10000 := by
      have := Nat.mul_le_mul (show m + 1 ≤ 14 by omega) hlen
      omega
    obtain ⟨y5, e⟩ := rows_loop k m hm x0 (some (.pv (.lst ((rowsN m n).map rowN)))) (some (.pv (.int (n : Nat)))) none (fun q => by simp) (rowsN m n) [] x5 (fun r hr => by
      have := ((rowsN_mem m n r).mp hr).1
      omega) (by simpa using hbig)
    rw [List.nil_append] at e
    have hrw : ((rowsN m n).flatMap fun row => (List.range (m + 1)).map fun x => row ++ [x]) = rowsN m (n + 1) := rfl
    rw [hrw] at e
    obtain ⟨X2', x3', x4', x5', hA, e2⟩ := rows_outer k m hm d (n + 1) (.pv (.lst ((rowsN m (n + 1)).map rowN))) (some (.pv (.int (n : Nat)))) (some (.pv (.lst ((rowsN m (n + 1)).map rowN)))) y5 (by omega) (.inr rfl) x0
    rw [show n + 1 + d = n + (d + 1) from by omega] at hA
    refine ⟨X2', x3', x4', x5', hA, ?_⟩
    rw [List.range'_succ, List.map_cons]
    have hs : fStep (.nm 3) (_law_rows_L2 (tab.run k)) (.int (n : Nat)) [x0, some (.pv (.int (m : Nat))), some X2, x3, x4, x5, none] = .ok .nx [x0, some (.pv (.int (m : Nat))), some (.pv (.lst ((rowsN m (n + 1)).map rowN))), some (.pv (.int (n : Nat))), some (.pv (.lst ((rowsN m (n + 1)).map rowN))), y5, none] := by
      generalize hG : (rowsN m n).map rowN = G at e h
      have s1 : sAsg (.nm 4) (eLst []) [x0, some (.pv (.int (m : Nat))), some X2, some (.pv (.int (n : Nat))), x4, x5, none] = .ok .nx [x0, some (.pv (.int (m : Nat))), some X2, some (.pv (.int (n : Nat))), some (.own (.lst [])), x5, none] := by
        simp [bT]
      have s2 : srE (eVar 2) [x0, some (.pv (.int (m : Nat))), some X2, some (.pv (.int (n : Nat))), some (.own (.lst [])), x5, none] = .ok G [x0, some (.pv (.int (m : Nat))), some (.pv (.lst G)), some (.pv (.int (n : Nat))), some (.own (.lst [])), x5, none] := by
        rcases h with rfl | rfl <;> simp
      refine fStep_ok (ρ1 := [x0, some (.pv (.int (m : Nat))), some X2, some (.pv (.int (n : Nat))), x4, x5, none]) rfl ?_
      unfold _law_rows_L2
      rw [sSeq_nx s1]
      rw [sSeq_nx (sFor_ok s2 e)]
      simp [bT]
    rw [forL_step hs, e2]
theorem run_rows (k m t : Nat) (hm : m ≤ 13) (ht : t ≤ 2) : ∃ X, AnyL X (.lst ((rowsN m t).map rowN)) ∧ tab.run (k + 1) "_law_rows" [.pv (.int (t : Nat)), .pv (.int (m : Nat))] = .ok X [none, none] := by
  obtain ⟨X2, x3, x4, x5, hA, e⟩ := rows_outer k m hm t 0 (.own (.lst [rowN []])) none none none (by omega) (.inl rfl) (some (.pv (.int (t : Nat))))
  rw [Nat.zero_add] at hA
  refine ⟨X2, hA, ?_⟩
  rw [r__law_rows]
  unfold b__law_rows
  have e0 : sAsg (.nm 2) (eLst [eTup []]) [some (.pv (.int (t : Nat))), some (.pv (.int (m : Nat))), none, none, none, none, none] = .ok .nx [some (.pv (.int (t : Nat))), some (.pv (.int (m : Nat))), some (.own (.lst [rowN []])), none, none, none, none] := by
    simp [bT, rowN, nI]
  have hr : srR1 (oVar 0) [some (.pv (.int (t : Nat))), some (.pv (.int (m : Nat))), some (.own (.lst [rowN []])), none, none, none, none] = .ok ((List.range' 0 t).map fun i : Nat => PV.int (i : Int)) [some (.pv (.int (t : Nat))), some (.pv (.int (m : Nat))), some (.own (.lst [rowN []])), none, none, none, none] := by
    rw [← List.range_eq_range', ← rgL_nat]
    exact srR1_ok rfl rfl (rg_small _ _ (by omega) (by omega) (by omega) (by omega))
  refine runBody_ret (ρ0 := [some (.pv (.int (t : Nat))), some (.pv (.int (m : Nat))), none, none, none, none, none]) (ρ' := [some (.pv (.int (t : Nat))), some (.pv (.int (m : Nat))), (match X2 with | .own _ => none | .pv v => some (.pv v)), x3, x4, x5, none]) rfl (by simp [ownsIn]) rfl ?_ (by simp [outsOf, List.range_succ])
  rw [sSeq_nx e0, sSeq_nx (sFor_ok hr e)]
  rcases hA with rfl | rfl <;> simp
end
end Law

namespace Law
open PySem Pi
/-! ### plain: the rows that stay, and the counts that are told -/
/-- a row that stays -/
def Fx (r0 r1 : Int) (s : Str) (f : Nat) (row : List Nat) : Prop := nxR r0 r1 s (f :: row) = row
instance (r0 r1 : Int) (s : Str) (f : Nat) (row : List Nat) : Decidable (Fx r0 r1 s f row) := by unfold Fx; infer_instance
theorem left_cnt (o : Bool) (f D : Nat) : ∀ row : List Nat, row.length ≤ 2 → (∀ x ∈ row, x ≤ f) → (leftN o D (f :: row)).dropLast = row → cnt o f (f + row.sum) row.length [f] D = f :: row
  | [], _, _, _ => rfl
  | [x], _, hb, h => by
    have hx := hb x (by simp)
    cases o <;> simp [leftN, lv, cnt] at h ⊢ <;> omega
  | [x, y], _, hb, h => by
    have hx := hb x (by simp)
    have hy := hb y (by simp)
    cases o <;> simp [leftN, lv, cnt] at h ⊢ <;> omega
  | _ :: _ :: _ :: _, h, _, _ => absurd h (by simp)
theorem cnt_cons (o : Bool) (f c : Nat) : ∀ (m : Nat) (found : List Nat) (rest : Nat), ∃ r, cnt o f c m found rest = found ++ r
  | 0, found, _ => ⟨[], by simp [cnt]⟩
  | m + 1, found, rest => by
    rw [cnt]
    split
    · obtain ⟨r, h⟩ := cnt_cons o f c m (found ++ [min f (c - found.sum)]) rest
      exact ⟨_, by rw [h, List.append_assoc]⟩
    · obtain ⟨r, h⟩ := cnt_cons o f c m (found ++ [found.getD (found.length - 1) 0 - min rest (found.getD (found.length - 1) 0)]) (rest - min rest (found.getD (found.length - 1) 0))
      exact ⟨_, by rw [h, List.append_assoc]⟩
theorem cnt_le (o : Bool) (f c : Nat) : ∀ (m : Nat) (found : List Nat) (rest : Nat), 0 < found.length → (∀ x ∈ found, x ≤ f) → ∀ x ∈ cnt o f c m found rest, x ≤ f
  | 0, found, _, _, h => h
  | m + 1, found, rest, h0, h => by
    rw [cnt]
    split
    · refine cnt_le o f c m _ rest (by simp) fun x hx => ?_
      rcases List.mem_append.mp hx with hx | hx
      · exact h x hx
      · simp at hx; omega
    · refine cnt_le o f c m _ _ (by simp) fun x hx => ?_
      rcases List.mem_append.mp hx with hx | hx
      · exact h x hx
      · have hl : found.getD (found.length - 1) 0 ≤ f := by
          rw [List.getD_eq_getElem?_getD, List.getElem?_eq_getElem (by omega)]
          exact h _ (List.getElem_mem _)
        simp only [List.mem_singleton] at hx
        omega
section
variable {r0 r1 : Int} {s : Str}
theorem cntR_cons (f t c : Nat) : ∃ r, cntR r0 r1 s f t c = f :: r ∧ r.length = t ∧ ∀ x ∈ r, x ≤ f := by
  obtain ⟨r, h⟩ := cnt_cons (isOld s) f c t [f] (Dn r0 r1 c).toNat
  refine ⟨r, h, ?_, fun x hx => ?_⟩
  · have := cnt_len (isOld s) f c t [f] (Dn r0 r1 c).toNat
    rw [h] at this
    simp at this; omega
  · refine cnt_le (isOld s) f c t [f] (Dn r0 r1 c).toNat (by simp) (by simp) x ?_
    rw [h]
    exact List.mem_append_right _ hx
theorem steG_some {f t c : Nat} {cs : List Nat} (h : steG r0 r1 s f t c = some cs) : ∃ r, cs = f :: r ∧ r.length = t ∧ (∀ x ∈ r, x ≤ f) ∧ f + r.sum = c ∧ Fx r0 r1 s f r := by
  unfold steG at h
  split at h
  · cases h
    rename_i hc
    obtain ⟨r, e, h1, h2⟩ := cntR_cons (r0 := r0) (r1 := r1) (s := s) f t c
    refine ⟨r, e, h1, h2, ?_, ?_⟩
    · have := hc.1; rw [e] at this; simpa using this
    · have := hc.2; rw [e] at this; exact this
  · exact absurd h (by simp)
theorem steC_mem {f t : Nat} (ht : t ≤ 2) (row : List Nat) : row ∈ (steC r0 r1 s f t).map List.tail ↔ row ∈ (rowsN f t).filter fun row => decide (Fx r0 r1 s f row) := by
  rw [List.mem_filter, rowsN_mem, List.mem_map]
  unfold steC
  constructor
  · rintro ⟨cs, h, rfl⟩
    obtain ⟨c, _, hc⟩ := List.mem_filterMap.mp h
    obtain ⟨r, rfl, h1, h2, _, h4⟩ := steG_some hc
    exact ⟨⟨h1, h2⟩, decide_eq_true h4⟩
  · rintro ⟨⟨h1, h2⟩, h3⟩
    have h3 := of_decide_eq_true h3
    have hsum : row.sum ≤ f * t := by
      rw [← h1]
      have hgen : ∀ l : List Nat, (∀ x ∈ l, x ≤ f) → l.sum ≤ f * l.length := by
        intro l
        induction l with
        | nil => intro _; simp
        | cons x l ih =>
          intro h
          have := h x (by simp)
          have := ih fun y hy => h y (by simp [hy])
          simp only [List.sum_cons, List.length_cons, Nat.mul_succ]
          omega
      exact hgen row h2
    have hc : cntR r0 r1 s f t (f + row.sum) = f :: row := by
      unfold cntR
      have h3' := h3
      unfold Fx nxR at h3'
      rw [List.sum_cons] at h3'
      have := left_cnt (isOld s) f (Dn r0 r1 ((f + row.sum : Nat) : Int)).toNat row (by omega) h2 h3'
      rw [h1] at this
      exact this
    refine ⟨f :: row, List.mem_filterMap.mpr ⟨f + row.sum, List.mem_range'_1.mpr ⟨by omega, by omega⟩, ?_⟩, rfl⟩
    unfold steG
    rw [hc, if_pos ⟨by simp, h3⟩]
theorem steC_sorted (f t : Nat) : ((steC r0 r1 s f t).map List.tail).Pairwise fun a b => a.sum < b.sum := by
  rw [List.pairwise_map]
  unfold steC
  rw [List.pairwise_filterMap]
  refine List.Pairwise.imp ?_ (List.pairwise_lt_range' (s := f) (n := f * t + 1))
  intro a b hab x hx y hy
  obtain ⟨r, rfl, _, _, h1, _⟩ := steG_some hx
  obtain ⟨q, rfl, _, _, h2, _⟩ := steG_some hy
  simp only [List.tail_cons]
  omega
theorem rows_ne {f t : Nat} (ht : t ≤ 2) : ((rowsN f t).filter fun row => decide (Fx r0 r1 s f row)).Pairwise fun a b => a.sum ≠ b.sum := by
  have hnd : ((rowsN f t).filter fun row => decide (Fx r0 r1 s f row)).Nodup := (rowsN_nodup f t).filter _
  have key : ∀ a ∈ (rowsN f t).filter (fun row => decide (Fx r0 r1 s f row)), ∀ b ∈ (rowsN f t).filter (fun row => decide (Fx r0 r1 s f row)), a.sum = b.sum → a = b := by
    intro a ha b hb hab
    have ga : ∀ a ∈ (rowsN f t).filter (fun row => decide (Fx r0 r1 s f row)), cntR r0 r1 s f t (f + a.sum) = f :: a := by
      intro a ha
      rw [List.mem_filter, rowsN_mem] at ha
      obtain ⟨⟨h1, h2⟩, h3⟩ := ha
      have h3 := of_decide_eq_true h3
      unfold Fx nxR at h3
      rw [List.sum_cons] at h3
      have := left_cnt (isOld s) f (Dn r0 r1 ((f + a.sum : Nat) : Int)).toNat a (by omega) h2 h3
      rw [h1] at this
      exact this
    have e1 := ga a ha
    have e2 := ga b hb
    rw [hab, e2] at e1
    exact (List.cons.inj e1).2.symm
  rw [List.nodup_iff_pairwise_ne] at hnd
  exact hnd.imp_of_mem fun ha hb hne e => hne (key _ ha _ hb e)
/-- what the law puts by, to be sorted -/
def sumStay (n : Nat) (row : List Nat) : PV := .tup [.int (row.sum : Nat), sP (stay n row)]
theorem sort_stays {f t : Nat} (n : Nat) (ht : t ≤ 2) : sortV (.lst (((rowsN f t).filter fun row => decide (Fx r0 r1 s f row)).map (sumStay n))) = some (.own (.lst (((steC r0 r1 s f t).map List.tail).map (sumStay n)))) := by
  refine sort_key (sumStay n) List.sum (sortOk_ir (fun r : List Nat => ((r.sum : Nat) : Int)) (fun r => stay n r) _) ?_ (rows_ne ht) (fun x => steC_mem ht x) (steC_sorted f t)
  intro a b hab
  unfold sumStay
  rw [sLe_first]
  have h1 : decide ((a.sum : Int) = (b.sum : Int)) = false := decide_eq_false (by omega)
  rw [h1, Bool.false_and, Bool.or_false]
  apply Bool.eq_iff_iff.mpr
  rw [decide_eq_true_iff, decide_eq_true_iff]
  omega
end
end Law

namespace Law
open PySem Pi
section
variable {R : PV} {r0 r1 r2 r3 : Int} {s : Str}
theorem stay_ok (h : Rl R r0 r1 r2 r3 s) {f t n : Nat} (ht : (t : Int) + 1 = r2) (hn : (n : Int) = r3) {row : List Nat} (hl : row.length = t) (hb : ∀ x ∈ row, x ≤ 13) : StOk (stay n row) r2 r3 := by
  refine ⟨by simp [stay, hn], fun r hr => ?_⟩
  unfold stay at hr
  obtain ⟨_, rfl⟩ := List.mem_replicate.mp hr
  refine ⟨by simp; omega, fun x hx => ?_⟩
  obtain ⟨c, hc, rfl⟩ := List.mem_map.mp hx
  have := hb c hc
  omega
theorem cast_inj {a b : List Nat} (h : (a.map fun c : Nat => (c : Int)) = b.map fun c : Nat => (c : Int)) : a = b := by
  have := congrArg (List.map Int.toNat) h
  simpa [List.map_map, Function.comp_def] using this
theorem nxS_stay (f n : Nat) (row : List Nat) : nxS r0 r1 s f (stay (n + 1) row) = (stay n row) ++ [(nxR r0 r1 s (f :: row)).map fun c : Nat => (c : Int)] := by
  unfold stay
  rw [List.replicate_succ, nxS_cons]
  rfl
theorem stay_inj {n : Nat} {a b : List Nat} : stay (n + 1) a = stay (n + 1) b ↔ a = b := by
  constructor
  · intro h
    unfold stay at h
    rw [List.replicate_succ, List.replicate_succ] at h
    exact cast_inj (List.cons.inj h).1
  · rintro rfl; rfl
theorem nxS_eq (f n : Nat) (row : List Nat) : nxS r0 r1 s f (stay (n + 1) row) = stay (n + 1) row ↔ Fx r0 r1 s f row := by
  rw [nxS_stay]
  have : stay (n + 1) row = stay n row ++ [row.map fun c : Nat => (c : Int)] := by
    unfold stay
    rw [List.replicate_succ']
  rw [this]
  unfold Fx
  constructor
  · intro h
    have := List.append_cancel_left h
    exact cast_inj (List.cons.inj this).1
  · intro h
    rw [h]
/-- which rows are put by -/
theorem right_row (k : Nat) (h : Rl R r0 r1 r2 r3 s) {f t n : Nat} (hf : f ≤ 13) (ht : (t : Int) + 1 = r2) (hn : ((n + 1 : Nat) : Int) = r3) {row : List Nat} (hl : row.length = t) (hb : ∀ x ∈ row, x ≤ 13) (L : List (List Nat)) (hL : L.length ≤ 10000) (a0 a4 a5 a6 a7 a8 a9 : Option XV) :
    fStep (.nm 4) (_law_right_L1 (tab.run (k + 2))) (rowN row) [a0, some (.pv R), some (.pv (.int (f : Nat))), some (.own (.lst (L.map (sumStay (n + 1))))), a4, a5, a6, a7, a8, a9] =
      .ok .nx [a0, some (.pv R), some (.pv (.int (f : Nat))), some (.own (.lst ((L ++ if Fx r0 r1 s f row then [row] else []).map (sumStay (n + 1))))), some (.pv (rowN row)), some (.pv (sP (stay (n + 1) row))), a6, a7, a8, a9] := by
  obtain ⟨D, Lt, S2, hS2, _, _, _, e2, _⟩ := tick h (stay_ok (f := f) h ht hn hl hb) f hf
  have e2 := e2 k
  have i3 : ixV R (.int 3) = some (.pv (.int r3)) := by rw [h.eq]; rfl
  have i2 : ixV (.tup [.int (D : Nat), .int (Lt : Nat), sP S2]) (.int 2) = some (.pv (sP S2)) := rfl
  have m1 : -1000000 ≤ r3 ∧ r3 ≤ 1000 := by have := h.a3; have := h.b3; omega
  have hq := eqV_k sP_k S2 (stay (n + 1) row)
  have hst := stay_P (n + 1) row
  rw [hn] at hst
  have hsum : sumV (rowN row) = some (.pv (.int (row.sum : Nat))) := by unfold rowN; simp only [sumV, items, Option.bind_some, nI_sum, Option.map_some, cast_sum]
  have hmul : binV .Mult (.tup [rowN row]) (.int r3) = some (.pv (sP (stay (n + 1) row))) := by
    rw [hst]
    simp only [binV, mulV]
    rw [if_pos ⟨m1.1, m1.2, by simp⟩]
    rfl
  have hz : (L.map (sumStay (n + 1))).length + 1 ≤ szL := by rw [List.length_map]; unfold szL; omega
  refine fStep_ok (ρ1 := [a0, some (.pv R), some (.pv (.int (f : Nat))), some (.own (.lst (L.map (sumStay (n + 1))))), some (.pv (rowN row)), a5, a6, a7, a8, a9]) rfl ?_
  unfold _law_right_L1
  have s1 : sAsg (.nm 5) (eBin (binV .Mult) (oE (eTup [eVar 4])) (oE (eBin ixV (oVar 1) (oE (eC (.int (3))))))) [a0, some (.pv R), some (.pv (.int (f : Nat))), some (.own (.lst (L.map (sumStay (n + 1))))), some (.pv (rowN row)), a5, a6, a7, a8, a9] = .ok .nx [a0, some (.pv R), some (.pv (.int (f : Nat))), some (.own (.lst (L.map (sumStay (n + 1))))), some (.pv (rowN row)), some (.pv (sP (stay (n + 1) row))), a6, a7, a8, a9] :=
    sAsg_ok (eBin_ok (x := .tup [rowN row]) (y := .int r3) rfl (oE_ok (eBin_ok (x := R) (y := .int 3) rfl rfl rfl rfl i3)) rfl rfl hmul) rfl
  rw [sSeq_nx s1]
  have hrow : sumStay (n + 1) row = .tup [.int (row.sum : Nat), sP (stay (n + 1) row)] := rfl
  have hiff := nxS_eq (r0 := r0) (r1 := r1) (s := s) f n row
  rw [← hS2] at hiff
  by_cases hF : Fx r0 r1 s f row
  · rw [decide_eq_true (hiff.mpr hF)] at hq
    rw [if_pos hF, List.map_append, List.map_cons, List.map_nil, hrow]
    generalize L.map (sumStay (n + 1)) = A at hz ⊢
    have ha := add_lst (xs := A) (ys := [.tup [.int (row.sum : Nat), sP (stay (n + 1) row)]]) hz
    refine sAsg_ok (eBin_ok (x := .lst A) (y := .lst [.tup [.int (row.sum : Nat), sP (stay (n + 1) row)]]) (r := .sl 3) (q := .v (.own (.lst [.tup [.int (row.sum : Nat), sP (stay (n + 1) row)]]))) (ρ1 := [a0, some (.pv R), some (.pv (.int (f : Nat))), some (.own (.lst A)), some (.pv (rowN row)), some (.pv (sP (stay (n + 1) row))), a6, a7, a8, a9]) (ρ2 := [a0, some (.pv R), some (.pv (.int (f : Nat))), some (.own (.lst A)), some (.pv (rowN row)), some (.pv (sP (stay (n + 1) row))), a6, a7, a8, a9]) rfl ?_ rfl rfl ha) rfl
    simp [-ixV, -eqV, -sumV, cmp_eq, e2, i2, hq, hsum]
  · rw [decide_eq_false (fun e => hF (hiff.mp e))] at hq
    rw [if_neg hF, List.append_nil]
    generalize L.map (sumStay (n + 1)) = A at hz ⊢
    have ha := add_lst (xs := A) (ys := []) (by simp at hz ⊢; omega)
    rw [List.append_nil] at ha
    refine sAsg_ok (eBin_ok (x := .lst A) (y := .lst []) (r := .sl 3) (q := .v (.own (.lst []))) (ρ1 := [a0, some (.pv R), some (.pv (.int (f : Nat))), some (.own (.lst A)), some (.pv (rowN row)), some (.pv (sP (stay (n + 1) row))), a6, a7, a8, a9]) (ρ2 := [a0, some (.pv R), some (.pv (.int (f : Nat))), some (.own (.lst A)), some (.pv (rowN row)), some (.pv (sP (stay (n + 1) row))), a6, a7, a8, a9]) rfl ?_ rfl rfl ha) rfl
    simp [-ixV, -eqV, -sumV, cmp_eq, e2, i2, hq, hsum]
theorem right_rows (k : Nat) (h : Rl R r0 r1 r2 r3 s) {f t n : Nat} (hf : f ≤ 13) (ht : (t : Int) + 1 = r2) (hn : ((n + 1 : Nat) : Int) = r3) (a0 a6 a7 a8 a9 : Option XV) : ∀ (rs L : List (List Nat)) (a4 a5 : Option XV), (∀ q, a5 ≠ some (.own q)) → (∀ r ∈ rs, r.length = t ∧ ∀ x ∈ r, x ≤ 13) → L.length + rs.length ≤ 10000 → ∃ b4 b5, (∀ q, b5 ≠ some (.own q)) ∧
    forL (.nm 4) (_law_right_L1 (tab.run (k + 2))) (rs.map rowN) [a0, some (.pv R), some (.pv (.int (f : Nat))), some (.own (.lst (L.map (sumStay (n + 1))))), a4, a5, a6, a7, a8, a9] =
      .ok .nx [a0, some (.pv R), some (.pv (.int (f : Nat))), some (.own (.lst ((L ++ rs.filter fun row => decide (Fx r0 r1 s f row)).map (sumStay (n + 1))))), b4, b5, a6, a7, a8, a9]
  | [], L, a4, a5, h5, _, _ => ⟨a4, a5, h5, by simp [forL]⟩
  | r :: rs, L, a4, a5, _, hr, hl => by
    obtain ⟨h1, h2⟩ := hr r (by simp)
    simp only [List.length_cons] at hl
    obtain ⟨b4, b5, h5, e⟩ := right_rows k h hf ht hn a0 a6 a7 a8 a9 rs (L ++ if Fx r0 r1 s f r then [r] else []) (some (.pv (rowN r))) (some (.pv (sP (stay (n + 1) r)))) (fun q => by simp) (fun q hq => hr q (by simp [hq])) (by
      rw [List.length_append]
      split <;> simp <;> omega)
    refine ⟨b4, b5, h5, ?_⟩
    rw [List.map_cons, forL_step (right_row k h hf ht hn h1 h2 L (by omega) a0 a4 a5 a6 a7 a8 a9), e, List.filter_cons, List.append_assoc]
    congr 8
    by_cases hF : Fx r0 r1 s f r <;> simp [hF]
/-! ### the quiet state is told where fresh calls are done -/
theorem quiet_stay (h : Rl R r0 r1 r2 r3 s) {t n : Nat} (ht : (t : Int) + 1 = r2) (hn : (n : Int) = r3) : quiet r2 r3 = sP (stay n (List.replicate t 0)) := by
  rw [stay_P, hn]
  unfold quiet
  have h1 : r2 - 1 = (t : Int) := by omega
  rw [h1, rep_one]
  congr 3
  unfold nI
  rw [List.map_replicate]
  rfl
theorem Fx_zero (h : Rl R r0 r1 r2 r3 s) {f t : Nat} (ht : (t : Int) + 1 = r2) : Fx r0 r1 s f (List.replicate t 0) ↔ (Dn r0 r1 (f : Nat) = (f : Int) ∨ r2 = 1) := by
  have hD := Dn_le h (f : Nat) (by omega)
  unfold Fx nxR
  have hs : (f :: List.replicate t 0).sum = f := by simp
  rw [hs]
  obtain ⟨D, hDn⟩ := Int.eq_ofNat_of_zero_le hD.1
  rw [hDn] at hD ⊢
  rw [Int.toNat_natCast]
  have ht3 : t = 0 ∨ t = 1 ∨ t = 2 := by have := h.b2; omega
  cases isOld s <;> rcases ht3 with rfl | rfl | rfl <;> simp [leftN, lv] <;> omega
theorem quiet_in (h : Rl R r0 r1 r2 r3 s) {f t n : Nat} (ht : (t : Int) + 1 = r2) (hn : ((n + 1 : Nat) : Int) = r3) : inV (quiet r2 r3) (toldP r0 r1 s (n + 1) f t) = some (decide (Dn r0 r1 (f : Nat) = (f : Int)) || decide (r2 = 1)) := by
  rw [quiet_stay h ht hn]
  unfold toldP
  obtain ⟨b, h1, hb⟩ := in_ktup sP_k (l := (steC r0 r1 s f t).map fun cs => stay (n + 1) cs.tail) (stay (n + 1) (List.replicate t 0))
  rw [List.map_map] at h1
  refine h1.trans ?_
  congr 1
  have hm := steC_mem (r0 := r0) (r1 := r1) (s := s) (f := f) (t := t) (by have := h.b2; omega) (List.replicate t 0)
  rw [List.mem_filter, rowsN_mem, decide_eq_true_iff] at hm
  have hz := Fx_zero h (f := f) ht
  refine Bool.eq_iff_iff.mpr ⟨fun hx => ?_, fun hx => ?_⟩
  · obtain ⟨cs, h3, h4⟩ := List.mem_map.mp (hb.mp hx)
    have h5 := stay_inj.mp h4
    have h6 := hz.mp (hm.mp (List.mem_map.mpr ⟨cs, h3, h5⟩)).2
    rcases h6 with h6 | h6
    · rw [decide_eq_true h6]; rfl
    · rw [decide_eq_true h6, Bool.or_true]
  · have h6 : Dn r0 r1 (f : Nat) = (f : Int) ∨ r2 = 1 := by
      rcases (Bool.or_eq_true _ _).mp hx with h | h
      · exact .inl (of_decide_eq_true h)
      · exact .inr (of_decide_eq_true h)
    obtain ⟨cs, h3, h4⟩ := List.mem_map.mp (hm.mpr ⟨⟨by simp, fun x hx => by have := (List.mem_replicate.mp hx).2; omega⟩, hz.mpr h6⟩)
    exact hb.mpr (List.mem_map.mpr ⟨cs, h3, by rw [h4]⟩)
end
end Law

namespace Law
open PySem Pi
section
variable {R : PV} {r0 r1 r2 r3 : Int} {s : Str} {S : List (List Int)}
theorem right_line (k : Nat) (h : Rl R r0 r1 r2 r3 s) (hS : StOk S r2 r3) {f : Nat} (hf : f ≤ 13) (a0 a3 a4 a5 a6 a7 a8 a9 : Option XV) : ∃ b7 b8,
    fStep (.nm 5) (_law_right_L2 (tab.run (k + 5))) (sP S) [a0, some (.pv R), some (.pv (.int (f : Nat))), a3, a4, a5, a6, a7, a8, a9] =
      .ok .nx [a0, some (.pv R), some (.pv (.int (f : Nat))), a3, a4, some (.pv (sP S)), a6, b7, b8, a9] := by
  have e1 : tab.run (k + 5) "_law_line" _ = _ := run_line (k + 2) h hS f hf
  have hlen := fun m => sqL_len (enc := sP) (sq r0 r1 s f S) m
  unfold lineV at e1
  cases hE : sqEnd (sq r0 r1 s f S) 400 with
  | some m =>
    obtain ⟨h1, h2, j, h3, h4⟩ := sqEnd_some _ hE
    rw [hE] at e1
    simp only [h3, Option.getD_some] at e1
    have e2 := run_round k h hS f hf (by omega : m < 2000) h2 h3
    have e3 : tab.run (k + 5) "_law_same" _ = _ := run_same 1 (k + 3) (.tup [.int (j : Nat), .int ((m : Int) - (j : Nat))]) (by simp [nice])
    have hlen := hlen m
    generalize sqL (sq r0 r1 s f S) sP m = ln at e1 hlen
    refine ⟨some (.pv (.lst ln)), some (.pv (.int (j : Nat))), ?_⟩
    refine fStep_ok (ρ1 := [a0, some (.pv R), some (.pv (.int (f : Nat))), a3, a4, some (.pv (sP S)), a6, a7, a8, a9]) rfl ?_
    unfold _law_right_L2
    have s1 : sAsg (.tp [.nm 7, .nm 8]) (eCall (tab.run (k + 5) "_law_line") [oPv (eVar 1), oPv (eVar 5), oPv (eVar 2)]) [a0, some (.pv R), some (.pv (.int (f : Nat))), a3, a4, some (.pv (sP S)), a6, a7, a8, a9] = .ok .nx [a0, some (.pv R), some (.pv (.int (f : Nat))), a3, a4, some (.pv (sP S)), a6, some (.pv (.lst ln)), some (.pv (.int (j : Nat))), a9] := by
      simp [bT, bTs, e1]
    rw [sSeq_nx s1]
    simp [cmp_isn, isNonV, e2, e3, hlen, binV]
  | none =>
    rw [hE] at e1
    generalize sqL (sq r0 r1 s f S) sP 400 = ln at e1
    refine ⟨some (.pv (.lst ln)), some (.pv .non), ?_⟩
    refine fStep_ok (ρ1 := [a0, some (.pv R), some (.pv (.int (f : Nat))), a3, a4, some (.pv (sP S)), a6, a7, a8, a9]) rfl ?_
    unfold _law_right_L2
    have s1 : sAsg (.tp [.nm 7, .nm 8]) (eCall (tab.run (k + 5) "_law_line") [oPv (eVar 1), oPv (eVar 5), oPv (eVar 2)]) [a0, some (.pv R), some (.pv (.int (f : Nat))), a3, a4, some (.pv (sP S)), a6, a7, a8, a9] = .ok .nx [a0, some (.pv R), some (.pv (.int (f : Nat))), a3, a4, some (.pv (sP S)), a6, some (.pv (.lst ln)), some (.pv .non), a9] := by
      simp [bT, bTs, e1]
    rw [sSeq_nx s1]
    simp [cmp_isn, isNonV]
theorem sq_fix {f : Nat} (e : nxS r0 r1 s f S = S) : sqHit (sq r0 r1 s f S) 1 = some 0 := by
  have h1 : sq r0 r1 s f S 1 = S := e
  unfold sqHit
  rw [show List.range 1 = [0] from rfl, List.find?_cons, h1]
  have h0 : sq r0 r1 s f S 0 = S := rfl
  rw [h0, decide_eq_true rfl]
/-- what is told stays: round (0, 1), and no tick changes it -/
theorem right_last (k : Nat) (h : Rl R r0 r1 r2 r3 s) {f t n : Nat} (hf : f ≤ 13) (ht : (t : Int) + 1 = r2) (hn : ((n + 1 : Nat) : Int) = r3) (a0 a3 a4 a5 a7 a8 a9 : Option XV) (h5 : ∀ q, a5 ≠ some (.own q)) :
    eLc [5] (srE (eVar 6)) (.nm 5) (Pi.tOr (tCmp (cmpV .NotEq) (oE (eCall (tab.run (k + 5) "storm_round") [oPv (eVar 1), oPv (eVar 5), oPv (eVar 2)])) (oE (eTup [eC (.int (0)), eC (.int (1))]))) (tCmp (cmpV .NotEq) (oE (eBin ixV (oE (eCall (tab.run (k + 5) "storm_tick") [oPv (eVar 1), oPv (eVar 5), oPv (eVar 2)])) (oE (eC (.int (2)))))) (oVar 5))) (_law_right_C2 (tab.run (k + 5)))
      [a0, some (.pv R), some (.pv (.int (f : Nat))), a3, a4, a5, some (.pv (toldP r0 r1 s (n + 1) f t)), a7, a8, a9] = .ok (.own (.lst [])) [a0, some (.pv R), some (.pv (.int (f : Nat))), a3, a4, a5, some (.pv (toldP r0 r1 s (n + 1) f t)), a7, a8, a9] := by
  have ht2 : t ≤ 2 := by have := h.b2; omega
  have hft : f * t ≤ 26 := by
    have := Nat.mul_le_mul hf ht2
    omega
  have hl := steC_len (r0 := r0) (r1 := r1) (s := s) f t
  generalize hT : toldP r0 r1 s (n + 1) f t = T
  have := eLc_f (vs := [5]) (s := srE (eVar 6)) (t := .nm 5) (tst := Pi.tOr (tCmp (cmpV .NotEq) (oE (eCall (tab.run (k + 5) "storm_round") [oPv (eVar 1), oPv (eVar 5), oPv (eVar 2)])) (oE (eTup [eC (.int (0)), eC (.int (1))]))) (tCmp (cmpV .NotEq) (oE (eBin ixV (oE (eCall (tab.run (k + 5) "storm_tick") [oPv (eVar 1), oPv (eVar 5), oPv (eVar 2)])) (oE (eC (.int (2)))))) (oVar 5))) (e := _law_right_C2 (tab.run (k + 5))) (ρ := [a0, some (.pv R), some (.pv (.int (f : Nat))), a3, a4, a5, some (.pv T), a7, a8, a9]) (ρ' := [a0, some (.pv R), some (.pv (.int (f : Nat))), a3, a4, a5, some (.pv T), a7, a8, a9]) (enc := fun cs : List Nat => sP (stay (n + 1) cs.tail)) (f := fun _ => none) (l := steC r0 r1 s f t) (by rw [← hT]; unfold toldP; simp) (by
    simp only [noOwn, List.all_cons, List.all_nil, List.getElem?_cons_succ, List.getElem?_cons_zero]
    rcases a5 with _ | _ | _
    · rfl
    · rfl
    · exact absurd rfl (h5 _)) ?_ (by unfold szL; omega)
  · rw [this]
    congr 3
    induction steC r0 r1 s f t with
    | nil => rfl
    | cons a l ih => rw [List.filterMap_cons]; exact ih
  · intro cs hcs
    unfold steC at hcs
    obtain ⟨c, _, hc⟩ := List.mem_filterMap.mp hcs
    obtain ⟨r, rfl, hr1, hr2, _, hF⟩ := steG_some hc
    rw [List.tail_cons]
    have hS := stay_ok h (f := f) ht hn hr1 (fun x hx => by have := hr2 x hx; omega)
    have hfx := (nxS_eq (r0 := r0) (r1 := r1) (s := s) f n r).mpr hF
    have e2 : tab.run (k + 5) "storm_round" [.pv R, .pv (sP (stay (n + 1) r)), .pv (.int (f : Nat))] = .ok (.pv (.tup [.int 0, .int 1])) [none, none, none] := run_round k h hS f hf (m := 1) (j := 0) (by omega) (fun i hi => by
      obtain rfl : i = 0 := by omega
      rfl) (sq_fix hfx)
    obtain ⟨D, L, S2, hS2, _, e3, _⟩ := tick h hS f hf
    have e3 := e3 k
    rw [hS2, hfx] at e3
    have i2 : ixV (.tup [.int (D : Nat), .int (L : Nat), sP (stay (n + 1) r)]) (.int 2) = some (.pv (sP (stay (n + 1) r))) := rfl
    have q1 : cmpV .NotEq (.tup [.int 0, .int 1]) (.tup [.int 0, .int 1]) = some false := by decide +kernel
    have q2 : cmpV .NotEq (sP (stay (n + 1) r)) (sP (stay (n + 1) r)) = some false := by
      rw [cmp_ne, eqV_k sP_k, decide_eq_true rfl]
      rfl
    generalize sP (stay (n + 1) r) = W at e2 e3 i2 q2 ⊢
    simp [-ixV, -eqV, lcStep, bT, e2, e3, i2, q1, q2]
end
end Law

namespace Law
open PySem Pi
theorem nice_rows (a : List (List Int)) (h1 : a.length ≤ 1000) (h2 : ∀ r ∈ a, r.length ≤ 1000) (n : Nat) : nice (n + 2) (sP a) = true := by
  unfold sP
  rw [nice, Bool.and_eq_true]
  refine ⟨by simpa using h1, ?_⟩
  rw [List.all_eq_true]
  intro x hx
  obtain ⟨r, hr, rfl⟩ := List.mem_map.mp hx
  rw [nice, Bool.and_eq_true]
  refine ⟨by simpa using h2 r hr, ?_⟩
  rw [List.all_eq_true]
  intro x hx
  obtain ⟨i, _, rfl⟩ := List.mem_map.mp hx
  rw [nice]
section
variable {R : PV} {r0 r1 r2 r3 : Int} {s : Str}
theorem nice_told {f t n : Nat} (hf : f ≤ 13) (ht : t ≤ 2) (hn : n ≤ 3) : nice 3 (toldP r0 r1 s n f t) = true := by
  have hft : f * t ≤ 26 := by
    have := Nat.mul_le_mul hf ht
    omega
  have hl := steC_len (r0 := r0) (r1 := r1) (s := s) f t
  unfold toldP
  rw [nice, Bool.and_eq_true]
  refine ⟨decide_eq_true (by rw [List.length_map]; omega), ?_⟩
  rw [List.all_eq_true]
  intro x hx
  obtain ⟨cs, hcs, rfl⟩ := List.mem_map.mp hx
  unfold steC at hcs
  obtain ⟨c, _, hc⟩ := List.mem_filterMap.mp hcs
  obtain ⟨r, rfl, hr1, _⟩ := steG_some hc
  refine nice_rows _ (by simp [stay]; omega) (fun q hq => ?_) 0
  unfold stay at hq
  obtain ⟨_, rfl⟩ := List.mem_replicate.mp hq
  simp; omega
abbrev tN : Option XV := none
theorem run_right (k : Nat) {c : List PV} (hc : Cup c) : ∃ c', Cup c' ∧ tab.run (k + 9) "_law_right" [.own (.lst c)] = .ok (.pv (.bl true)) [some (.own (.lst c'))] := by
  obtain ⟨r0, r1, r2, r3, s, c1, q1, q2, q3, q4, q5, q6, q7, q8, q9, hc1, e1⟩ := run_rule (k + 4) hc
  have h : Rl (.tup [.int r0, .int r1, .int r2, .int r3, .str s]) r0 r1 r2 r3 s := ⟨rfl, q1, q2, q3, q4, q5, q6, q7, q8, q9⟩
  generalize hR : PV.tup [.int r0, .int r1, .int r2, .int r3, .str s] = R at e1 h
  obtain ⟨v, c2, p1, p2, hc2, e2⟩ := run_roll (k + 7) hc1 8 (by decide) (by decide)
  obtain ⟨f, rfl⟩ := Int.eq_ofNat_of_zero_le p1
  have hf : f ≤ 13 := by omega
  obtain ⟨t, ht⟩ := Int.eq_ofNat_of_zero_le (show 0 ≤ r2 - 1 by omega)
  have ht : (t : Int) + 1 = r2 := by omega
  have ht2 : t ≤ 2 := by omega
  obtain ⟨n, hn⟩ := Int.eq_ofNat_of_zero_le (show 0 ≤ r3 - 1 by omega)
  have hn : ((n + 1 : Nat) : Int) = r3 := by omega
  have i2 : ixV R (.int 2) = some (.pv (.int r2)) := by rw [h.eq]; rfl
  obtain ⟨X, hX, e3⟩ := run_rows (k + 7) f t hf ht2
  have hr2 : r2 - 1 = (t : Nat) := by omega
  have hRl : ((rowsN f t)).length ≤ 1000 := by
    rw [rowsN_len]
    have : t = 0 ∨ t = 1 ∨ t = 2 := by omega
    have hf7 : f ≤ 7 := by omega
    rcases this with rfl | rfl | rfl
    · simp
    · simp; omega
    · have := Nat.mul_le_mul (show f + 1 ≤ 8 by omega) (show f + 1 ≤ 8 by omega)
      rw [Nat.pow_two]
      omega
  obtain ⟨b4, b5, h5, e4⟩ := right_rows (k + 6) h hf ht hn (some (.own (.lst c2))) tN tN tN tN (rowsN f t) [] tN tN (fun q => by simp) (fun r hr => by
    have := (rowsN_mem f t r).mp hr
    exact ⟨this.1, fun x hx => by have := this.2 x hx; omega⟩) (by simp; omega)
  rw [List.nil_append, List.map_nil] at e4
  have e5 := run_states (k + 4) h f t (n + 1) ht hn hf
  have hsort := sort_stays (r0 := r0) (r1 := r1) (s := s) (f := f) (n + 1) ht2
  have e6 : tab.run (k + 8) "_law_same" [.pv (toldP r0 r1 s (n + 1) f t), .pv (toldP r0 r1 s (n + 1) f t)] = .ok (.pv (.bl true)) [none, none] := run_same 3 (k + 4) _ (nice_told hf ht2 (by omega))
  have e7 := run_law_quiet (k + 7) h
  have e8 := run_law_done (k + 7) h f (by omega)
  have hqi := quiet_in h (f := f) ht hn
  obtain ⟨S, c3, hc3, hS, e9⟩ := run_state (k + 6) 6 (by decide) (by decide) h hc2
  have hq := quiet_stay h ht hn
  have hSq : StOk (stay (n + 1) (List.replicate t 0)) r2 r3 := stay_ok h (f := f) ht hn (by simp) (fun x hx => by have := (List.mem_replicate.mp hx).2; omega)
  have hlast := fun a0 a3 a4 a5 a7 a8 a9 h5 => right_last (k + 3) h (n := n) hf ht hn a0 a3 a4 a5 a7 a8 a9 h5
  have hsl := steC_len (r0 := r0) (r1 := r1) (s := s) f t
  have hft : f * t ≤ 26 := by
    have := Nat.mul_le_mul hf ht2
    omega
  have hdef : toldP r0 r1 s (n + 1) f t = .tup (((steC r0 r1 s f t).map List.tail).map fun row => sP (stay (n + 1) row)) := by
    unfold toldP
    rw [List.map_map]
    rfl
  generalize hT : toldP r0 r1 s (n + 1) f t = T at e5 e6 hqi hlast hdef
  generalize hF : ((rowsN f t).filter fun row => decide (Fx r0 r1 s f row)).map (sumStay (n + 1)) = Fl at e4 hsort
  refine ⟨c3, hc3, ?_⟩
  rw [show k + 9 = (k + 8) + 1 from rfl, r__law_right]
  unfold b__law_right
  have s1 : sPar [.nm 1, .nm 2] [eCall (tab.run (k + 8) "_law_rule") [oVar 0, oPv (eC (.int (3))), oPv (eC (.int (2)))], eCall (tab.run (k + 8) "_law_roll") [oVar 0, oPv (eC (.int (8)))]] [some (.own (.lst c)), none, none, none, none, none, none, none, none, none] = .ok .nx [some (.own (.lst c2)), some (.pv R), some (.pv (.int (f : Nat))), none, none, none, none, none, none, none] := by
    simp [bT, e1, e2]
  have s2 : sAsg (.nm 3) (eLst []) [some (.own (.lst c2)), some (.pv R), some (.pv (.int (f : Nat))), none, none, none, none, none, none, none] = .ok .nx [some (.own (.lst c2)), some (.pv R), some (.pv (.int (f : Nat))), some (.own (.lst [])), none, none, none, none, none, none] := by
    simp [bT]
  have s3 : srE (eCall (tab.run (k + 8) "_law_rows") [oPv (eBin (binV .Sub) (oE (eBin ixV (oVar 1) (oE (eC (.int (2)))))) (oE (eC (.int (1))))), oPv (eVar 2)]) [some (.own (.lst c2)), some (.pv R), some (.pv (.int (f : Nat))), some (.own (.lst [])), none, none, none, none, none, none] = .ok ((rowsN f t).map rowN) [some (.own (.lst c2)), some (.pv R), some (.pv (.int (f : Nat))), some (.own (.lst [])), none, none, none, none, none, none] := by
    rcases hX with rfl | rfl <;> simp [-ixV, binV, i2, hr2, e3]
  have s4 : sAsg (.nm 6) (eCall (tab.run (k + 8) "steady_states") [oPv (eVar 1), oPv (eVar 2)]) [some (.own (.lst c2)), some (.pv R), some (.pv (.int (f : Nat))), some (.own (.lst Fl)), b4, b5, none, none, none, none] = .ok .nx [some (.own (.lst c2)), some (.pv R), some (.pv (.int (f : Nat))), some (.own (.lst Fl)), b4, b5, some (.pv T), none, none, none] := by
    simp [bT, e5]
  have hE := eLc_m (vs := [9, 5]) (s := srE (eUn sortV (oVar 3))) (t := .tp [.nm 9, .nm 5]) (e := _law_right_C1 (tab.run (k + 8))) (ρ := [some (.own (.lst c2)), some (.pv R), some (.pv (.int (f : Nat))), some (.own (.lst Fl)), b4, b5, some (.pv T), none, none, none]) (ρ' := [some (.own (.lst c2)), some (.pv R), some (.pv (.int (f : Nat))), some (.own (.lst Fl)), b4, b5, some (.pv T), none, none, none]) (enc := sumStay (n + 1)) (g := fun row => sP (stay (n + 1) row)) (l := (steC r0 r1 s f t).map List.tail) (by simp [-sortV, -List.map_map, hsort]) (by
    simp only [noOwn, List.all_cons, List.all_nil, List.getElem?_cons_succ, List.getElem?_cons_zero]
    rcases b5 with _ | _ | _
    · rfl
    · rfl
    · exact absurd rfl (h5 _)) (fun row _ => by
      unfold sumStay
      generalize sP (stay (n + 1) row) = W
      simp [lcStep, bT, bTs, _law_right_C1]) (by rw [List.length_map]; unfold szL; omega)
  have s5 : sIf (Pi.tNot (tVal (eCall (tab.run (k + 8) "_law_same") [oPv (eVar 6), oPv (eUn tupleV (oE (eLc [9, 5] (srE (eUn sortV (oVar 3))) (.tp [.nm 9, .nm 5]) (tYes) (_law_right_C1 (tab.run (k + 8))))))]))) (sRet (eC (.bl false))) (sNx) [some (.own (.lst c2)), some (.pv R), some (.pv (.int (f : Nat))), some (.own (.lst Fl)), b4, b5, some (.pv T), none, none, none] = .ok .nx [some (.own (.lst c2)), some (.pv R), some (.pv (.int (f : Nat))), some (.own (.lst Fl)), b4, b5, some (.pv T), none, none, none] := by
    simp [-eLc, -List.map_map, hE, ← hdef, e6]
  have s6 : sIf (tCmp (cmpV .NotEq) (oE (eCmp (cmpV .In) (oE (eCall (tab.run (k + 8) "_law_quiet") [oPv (eVar 1)])) (oVar 6))) (oE (eOr (eCmp (cmpV .Eq) (oE (eCall (tab.run (k + 8) "_law_done") [oPv (eVar 1), oPv (eVar 2)])) (oVar 2)) (eCmp (cmpV .Eq) (oE (eBin ixV (oVar 1) (oE (eC (.int (2)))))) (oE (eC (.int (1)))))))) (sRet (eC (.bl false))) (sNx) [some (.own (.lst c2)), some (.pv R), some (.pv (.int (f : Nat))), some (.own (.lst Fl)), b4, b5, some (.pv T), none, none, none] = .ok .nx [some (.own (.lst c2)), some (.pv R), some (.pv (.int (f : Nat))), some (.own (.lst Fl)), b4, b5, some (.pv T), none, none, none] := by
    have g1 := eqV_int (Dn r0 r1 (f : Nat)) (f : Nat)
    have g2 := eqV_int r2 1
    have g3 : ∀ b : Bool, eqV (.bl b) (.bl b) = some true := fun b => by cases b <;> rfl
    by_cases hD : Dn r0 r1 (f : Nat) = (f : Int)
    · have hb : (Dn r0 r1 (f : Nat) == (f : Int)) = true := by rw [hD]; simp
      rw [hb] at g1
      rw [decide_eq_true hD, Bool.true_or] at hqi
      simp [-ixV, -eqV, -inV, cmp_in, cmp_ne, cmp_eq, e7, e8, i2, g1, g3, hqi]
    · have hb : (Dn r0 r1 (f : Nat) == (f : Int)) = false := by rw [beq_eq_false_iff_ne]; exact hD
      rw [hb] at g1
      rw [decide_eq_false hD, Bool.false_or] at hqi
      have hb2 : (r2 == 1) = decide (r2 = 1) := by
        apply Bool.eq_iff_iff.mpr
        simp
      rw [hb2] at g2
      generalize decide (r2 = 1) = bb at g2 hqi
      simp [-ixV, -eqV, -inV, cmp_in, cmp_ne, cmp_eq, e7, e8, i2, g1, g2, g3, hqi]
  obtain ⟨b7, b8, l1⟩ := right_line (k + 3) h hSq hf (some (.own (.lst c3))) (some (.own (.lst Fl))) b4 b5 (some (.pv T)) none none none
  obtain ⟨b7', b8', l2⟩ := right_line (k + 3) h hS hf (some (.own (.lst c3))) (some (.own (.lst Fl))) b4 (some (.pv (sP (stay (n + 1) (List.replicate t 0))))) (some (.pv T)) b7 b8 none
  have s7 : srE (eTup [eCall (tab.run (k + 8) "_law_quiet") [oPv (eVar 1)], eCall (tab.run (k + 8) "_law_state") [oVar 0, oPv (eVar 1), oPv (eC (.int (6)))]]) [some (.own (.lst c2)), some (.pv R), some (.pv (.int (f : Nat))), some (.own (.lst Fl)), b4, b5, some (.pv T), none, none, none] = .ok [sP (stay (n + 1) (List.replicate t 0)), sP S] [some (.own (.lst c3)), some (.pv R), some (.pv (.int (f : Nat))), some (.own (.lst Fl)), b4, b5, some (.pv T), none, none, none] := by
    rw [hq] at e7
    simp [e7, e9]
  have e10 := hlast (some (.own (.lst c3))) (some (.own (.lst Fl))) b4 (some (.pv (sP S))) b7' b8' none (fun q => by simp)
  refine runBody_ret (ρ0 := [some (.own (.lst c)), none, none, none, none, none, none, none, none, none]) (ρ' := [some (.own (.lst c3)), some (.pv R), some (.pv (.int (f : Nat))), some (.own (.lst Fl)), b4, some (.pv (sP S)), some (.pv T), b7', b8', none]) rfl (by simp [ownsIn]) rfl ?_ (by simp [outsOf, List.range_succ])
  rw [sSeq_nx s1, sSeq_nx s2, sSeq_nx (sFor_ok s3 e4), sSeq_nx s4, sSeq_nx s5, sSeq_nx s6]
  have f7 : forL (.nm 5) (_law_right_L2 (tab.run (k + 8))) [sP (stay (n + 1) (List.replicate t 0)), sP S] [some (.own (.lst c3)), some (.pv R), some (.pv (.int (f : Nat))), some (.own (.lst Fl)), b4, b5, some (.pv T), none, none, none] = .ok .nx [some (.own (.lst c3)), some (.pv R), some (.pv (.int (f : Nat))), some (.own (.lst Fl)), b4, some (.pv (sP S)), some (.pv T), b7', b8', none] := by
    rw [forL_step l1, forL_step l2]
    rfl
  rw [sSeq_nx (sFor_ok s7 f7)]
  exact sRet_ok (eBin_ok (x := .lst []) (y := .lst []) (oE_ok e10) rfl rfl rfl rfl)
end
end Law

namespace Law
open PySem Pi
def iv (i : Int) : PV := .int i
def pr (a b : Int) : PV := .tup [.int a, .int b]
def newR : PV := .tup [.int 10, .int 10, .int 3, .int 1, .str "new"]
def oldR : PV := .tup [.int 10, .int 10, .int 3, .int 1, .str "old"]
def toldA : PV := .tup [.tup [.tup [pr 0 0], .tup [pr 4 4], .tup [pr 8 8]], .tup [.tup [pr 0 0], .tup [pr 4 0], .tup [pr 8 8]], pr 2 1, pr 0 1, .tup [.tup [.tup [], .tup []]], .tup [.tup [pr 0 0]]]
def toldB : PV := .tup [pr 0 2, pr 1 1, .tup [.tup [.tup [.int 3]]]]
theorem right_loop (k : Nat) (a0 a2 a3 a4 : Option XV) : ∀ (is : List PV) (c : List PV) (a5 : Option XV), Cup c → ∃ c' b5, Cup c' ∧
    forL (.nm 5) (law_L1 (tab.run (k + 9))) is [a0, some (.own (.lst c)), a2, a3, a4, a5] = .ok .nx [a0, some (.own (.lst c')), a2, a3, a4, b5]
  | [], c, a5, hc => ⟨c, a5, hc, rfl⟩
  | i :: is, c, a5, hc => by
    obtain ⟨c1, h1, e1⟩ := run_right k hc
    obtain ⟨c2, b5, h2, e2⟩ := right_loop k a0 a2 a3 a4 is c1 (some (.pv i)) h1
    refine ⟨c2, b5, h2, ?_⟩
    rw [forL_step (ρ2 := [a0, some (.own (.lst c1)), a2, a3, a4, some (.pv i)]) (by
      refine fStep_ok (ρ1 := [a0, some (.own (.lst c)), a2, a3, a4, some (.pv i)]) rfl ?_
      unfold law_L1
      simp [e1]), e2]
theorem hrun (ns : List Int) (hn : ns.length ≤ 63) : ∃ outs, tab.run 40 d_law.name [.pv (.scr ns)] = .ok (.pv (.bl true)) outs := by
  obtain ⟨c, hc, e0⟩ := run_cup 38 ns hn
  obtain ⟨c1, b5, h1, e1⟩ := right_loop 30 (some (.pv (.scr ns))) (some (.pv newR)) (some (.pv oldR)) (some (.pv toldB)) (rgL 0 10) c none hc
  refine ⟨[none], ?_⟩
  show tab.run (39 + 1) "law" [.pv (.scr ns)] = _
  rw [r_law]
  unfold b_law
  have key : ∀ (b : Pi.S), (∃ ρ', b [some (.pv (.scr ns)), none, none, none, none, none] = .ok (.ret (.pv (.bl true))) ρ') → runBody { np := 1, nN := 6, io := [], body := b } [.pv (.scr ns)] = .ok (.pv (.bl true)) [none] := by
    rintro b ⟨ρ', e⟩
    exact runBody_ret rfl (by simp [ownsIn]) rfl e (by simp [outsOf, List.range_succ])
  apply key
  rw [sSeq_nx (ρ1 := [some (.pv (.scr ns)), some (.own (.lst c)), none, none, none, none]) (by simp [bT, e0])]
  rw [sSeq_nx (ρ1 := [some (.pv (.scr ns)), some (.own (.lst c)), some (.pv newR), some (.pv oldR), none, none]) (by kernel_rfl)]
  rw [sSeq_nx (ρ1 := [some (.pv (.scr ns)), some (.own (.lst c)), some (.pv newR), some (.pv oldR), some (.pv toldA), none]) (by kernel_rfl)]
  rw [sSeq_nx (ρ1 := [some (.pv (.scr ns)), some (.own (.lst c)), some (.pv newR), some (.pv oldR), some (.pv toldA), none]) (by kernel_rfl)]
  rw [sSeq_nx (ρ1 := [some (.pv (.scr ns)), some (.own (.lst c)), some (.pv newR), some (.pv oldR), some (.pv toldB), none]) (by kernel_rfl)]
  rw [sSeq_nx (ρ1 := [some (.pv (.scr ns)), some (.own (.lst c)), some (.pv newR), some (.pv oldR), some (.pv toldB), none]) (by kernel_rfl)]
  rw [sSeq_nx (sFor_ok (xs := rgL 0 10) (by kernel_rfl) e1)]
  exact endsTrue_ok (by kernel_rfl)
end Law

namespace Law
open PySem Pi L2 He
abbrev R : PySem.W.OpenRow := PySem.W.OpenLaw.row PySem.Challenge.rw_spreadheld_k81_whole_steady_states_and_r
abbrev hk : PySem.W.Hook := hookP 4 tab.fa tab.fn tab.consts
def ob (s : PySem.W.SharedT) : AlP := obsP 4 tab.fa tab.fn tab.consts (HandSHeadRun.getT s)
theorem ob_eq (s : PySem.W.SharedT) : ob s = hk.obs s.abs := obsP_eq (HandSHeadRun.getT_eq s)
def loose : List Str := (["__name__", "SpreadError", "InvalidNumber", "TooMany", "InvalidStorm", "is_whole", "is_tuple_of", "MOST", "DRAG", "TRIES", "REST", "FRESH", "STATES", "ORDERS", "fits_rule", "need_rule", "fits_state", "need_state", "need_fresh", "done_in"] : List Str) ++ (["left_in", "behind", "counts_for", "steady_in", "storm_tick", "steady_states", "storm_round", "_law_cup", "_law_roll", "_law_some", "_law_same", "_law_rule", "_law_done", "_law_tick", "_law_state", "_law_quiet", "_law_line", "_law_rows", "_law_right"] : List Str)
theorem runs (w : World) : HandSHeadRun.RunEq R (PySem.W.view R.prog [42]) hk ob 4000 loose w := by
  intro os
  kernel_rfl
end Law

open PySem PySem.W PySem.Calls PyProof.Rows in
theorem PySem.Challenge.cw_spreadheld_k81_whole_steady_states_and_r_holds : PySem.Challenge.rw_spreadheld_k81_whole_steady_states_and_r.Holds := by
  w_on; o_law
  refine HandSHeadRun.head_any (r := Law.R) (q := view Law.R.prog [42]) (H := Law.hk) (ob := Law.ob) (M := 4000) (loose := Law.loose) (d := HandSHeadRun.topDef Law.R.prog 42) (kwd := []) Law.ob_eq
    (by kernel_rfl) (fun s => by kernel_rfl) Law.runs (by kernel_rfl) (by kernel_rfl) (by kernel_rfl) (by rfl) (by first | assumption | decide +kernel) (by decide +kernel) ⟨rfl, rfl, rfl, rfl, rfl, by decide +kernel⟩ ?hw ?hc
  case hw => w_witness2
  case hc => exact Pi.walk_pi (l := PySem.Challenge.rw_spreadheld_k81_whole_steady_states_and_r) (n := 63) (k := 40) (L := Law.tab) (dl := Law.d_law) (x := "script") rfl (by decide) (by kernel_rfl) ⟨rfl, by decide, by decide⟩ (by kernel_rfl) Law.ok_all (by rfl) (by rfl) rfl (fun _ _ Y => Y) Law.hrun
