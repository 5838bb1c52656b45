import PyProof.Rows.All
import Wide.All
import OpenK.AllK
import Wide.FinOn
import PyProof.EqAt
import PyProof.EqKinds
import PyProof.TupleCall
import HandS.ForMost
import HandS.ForExc
import HandS.Wide
import HandS.WideBits
import HandS.Rev
import HandS.IsInst
import HandS.ExcIs
import HandS.Defaults
import HandS.Style
import HandS.Conv
import HandS.Deep
import HandS.HeadHook1
import HandS.HeadHook2
import HandS.TryOnly
import HandS.Iter
import HandS.Head0
import HandS.Head1
import HandS.Head2
import HandS.HeadEnd
import HandS.EndBits
import PySem.Challenge.RW_noisepurse_k05_transforms
set_option Elab.async false
set_option linter.all false
set_option maxRecDepth 100000
set_option maxHeartbeats 0
/-! VLCore: values as trees, what the pieces of Python do to them (plain Lean). -/
namespace VL
open PySem
/-! ### errors, values -/
inductive Er where
  | purse | range | malformed | refused | notThere | spent | badLine | valueE | indexE | keyE | zeroE | typeE
  deriving DecidableEq
def Er.name : Er → Str
  | .purse => "PurseError" | .range => "OutOfRange" | .malformed => "Malformed" | .refused => "Refused" | .notThere => "NotThere" | .spent => "Spent" | .badLine => "BadLine"
  | .valueE => "ValueError" | .indexE => "IndexError" | .keyE => "KeyError" | .zeroE => "ZeroDivisionError" | .typeE => "TypeError"
def Er.own : Er → Bool
  | .purse | .range | .malformed | .refused | .notThere | .spent | .badLine => true
  | _ => false
/-- is a's class b's, or below it -/
def Er.sub (a b : Er) : Bool := decide (a = b) || (a.own && (decide (b = .purse) || decide (b = .valueE)))
inductive D where
  | non | bl (b : Bool) | int (i : Int) | str (x : Str) | byt (b : Array UInt8)
  | lst (xs : List D) | tup (xs : List D) | ins (c : Nat) (fs : List D)
  deriving Inhabited
abbrev Env := List (Option D)
inductive Res (α : Type) where
  | ok (a : α) | exc (e : Er) | stuck
def Res.bind {α β : Type} (r : Res α) (f : α → Res β) : Res β := match r with
  | .ok a => f a
  | .exc e => .exc e
  | .stuck => .stuck
theorem Res.ok_bind {α β : Type} (a : α) (f : α → Res β) : (Res.ok a).bind f = f a := rfl
theorem Res.exc_bind {α β : Type} (e : Er) (f : α → Res β) : (Res.exc e).bind f = .exc e := rfl
theorem Res.stuck_bind {α β : Type} (f : α → Res β) : Res.stuck.bind f = .stuck := rfl
inductive Fl where
  | nx (η : Env) | rt (d : D) | bk (η : Env) | ct (η : Env) | ex (e : Er) (η : Env) | stuck
abbrev M (α : Type) := Env → Res α
/-- the classes by number: name, fields in the order in which __init__ stores them -/
def clsTab : Nat → Str × List Str
  | 0 => ("Gadget", ["modulus", "base", "levels", "unit"])
  | 1 => ("Refresher", ["modulus", "length", "degree", "shifter", "switcher", "error"])
  | 2 => ("Bfv", ["size", "plain", "modulus", "error", "weight", "base", "count"])
  | 3 => ("Chain", ["degree", "plain", "steps", "top"])
  | 4 => ("Thing", ["chain", "level", "factor", "weight", "purse", "modulus", "_parts"])
  | 5 => ("PublicKey", ["chain", "weight", "error", "_parts"])
  | 6 => ("ChangeKey", ["chain", "base", "special", "weight", "spread", "_pairs"])
  | 7 => ("Bounds", ["chain", "weight", "error", "width", "base", "special", "count", "spread"])
  | 8 => ("Slots", ["degree", "plain", "row"])
  | 9 => ("Circuit", ["inputs", "gates", "outputs"])
  | 10 => ("Program", ["degree", "plain", "inputs", "deeds", "outputs"])
  | 11 => ("KeyRing", ["public", "reducing", "turners"])
  | 12 => ("Net", ["slots", "inputs", "nodes", "outputs"])
  | 13 => ("Setting", ["safe", "net", "refresher", "purse", "full", "fits"])
  | _ => ("?", [])
def nCls : Nat := 14
/-! ### data that == compares -/
mutual
def D.toPD : D → PyData
  | .non => .none
  | .bl b => .bool b
  | .int i => .int i
  | .str x => .str x
  | .lst xs => .list (D.toPDs xs)
  | .tup xs => .tuple (D.toPDs xs)
  | .byt _ => .none
  | .ins _ _ => .none
def D.toPDs : List D → List PyData
  | [] => []
  | d :: ds => D.toPD d :: D.toPDs ds
end
mutual
/-- none, bools, ints, texts, lists and tuples of such -/
def D.plain : D → Bool
  | .non => true
  | .bl _ => true
  | .int _ => true
  | .str _ => true
  | .lst xs => D.plains xs
  | .tup xs => D.plains xs
  | .byt _ => false
  | .ins _ _ => false
def D.plains : List D → Bool
  | [] => true
  | d :: ds => D.plain d && D.plains ds
end
def D.eqOk (d : D) : Bool := d.plain && SeqAt.shaped d.toPD
def D.eqv (a b : D) : Bool := PyData.eqv a.toPD b.toPD
/-! ### operators -/
def line : Nat := 16777216
def mulOk (i j : Int) : Bool := decide (i.natAbs.log2 + j.natAbs.log2 < 134000000)
def divOk (i j : Int) : Bool := decide (0 < j) && (decide (j.natAbs.log2 < 9000) || decide (i.natAbs.log2 ≤ j.natAbs.log2 + 4000))
def shlOk (i j : Int) : Bool := decide (0 ≤ j) && decide (i.natAbs.log2 + 1 + j.toNat ≤ 134000000)
def powOk (i j : Int) : Bool := decide (0 ≤ j) && (decide (j ≤ 1000000) && decide (i.natAbs < 2 ^ 64))
def opAdd : D → D → Res D
  | .int i, .int j => .ok (.int (i + j))
  | .lst xs, .lst ys => if xs.length + ys.length ≤ line then .ok (.lst (xs ++ ys)) else .stuck
  | .tup xs, .tup ys => if xs ≠ [] ∧ xs.length + ys.length ≤ line then .ok (.tup (xs ++ ys)) else .stuck
  | _, _ => .stuck
def opSub : D → D → Res D
  | .int i, .int j => .ok (.int (i - j))
  | _, _ => .stuck
def opMul : D → D → Res D
  | .int i, .int j => if mulOk i j then .ok (.int (i * j)) else .stuck
  | .lst xs, .int k => if k < 16777217 ∧ -16777217 < k ∧ xs.length * k.toNat ≤ line then .ok (.lst (List.replicate k.toNat xs).flatten) else .stuck
  | _, _ => .stuck
def opDiv : D → D → Res D
  | .int i, .int j => if divOk i j then .ok (.int (i / j)) else .stuck
  | _, _ => .stuck
def opMod : D → D → Res D
  | .int i, .int j => if 0 < j then .ok (.int (i % j)) else .stuck
  | _, _ => .stuck
def opPow : D → D → Res D
  | .int i, .int j => if powOk i j then .ok (.int (i ^ j.toNat)) else .stuck
  | _, _ => .stuck
def opShl : D → D → Res D
  | .int i, .int j => if shlOk i j then .ok (.int (i * 2 ^ j.toNat)) else .stuck
  | _, _ => .stuck
def opShr : D → D → Res D
  | .int i, .int j => if 0 ≤ j then .ok (.int (i / 2 ^ j.toNat)) else .stuck
  | _, _ => .stuck
def opAnd : D → D → Res D
  | .int i, .int j => .ok (.int (Builtin.bitAnd i j))
  | _, _ => .stuck
def opOr : D → D → Res D
  | .int i, .int j => .ok (.int (Builtin.bitOr i j))
  | _, _ => .stuck
def opXor : D → D → Res D
  | .int i, .int j => .ok (.int (Builtin.bitXor i j))
  | _, _ => .stuck
def opNeg : D → Res D
  | .int i => .ok (.int (-i))
  | _ => .stuck
def opInv : D → Res D
  | .int i => .ok (.int (Builtin.bitNot i))
  | _ => .stuck
def cmpI (p : Int → Int → Bool) : D → D → Res D
  | .int i, .int j => .ok (.bl (p i j))
  | _, _ => .stuck
abbrev opLt := cmpI fun i j => decide (i < j)
abbrev opLe := cmpI fun i j => decide (i ≤ j)
abbrev opGt := cmpI fun i j => decide (j < i)
abbrev opGe := cmpI fun i j => decide (j ≤ i)
def opEq (a b : D) : Res D := if a.eqOk && b.eqOk then .ok (.bl (D.eqv a b)) else .stuck
def opNe (a b : D) : Res D := if a.eqOk && b.eqOk then .ok (.bl (!D.eqv a b)) else .stuck
def D.flat : D → Bool
  | .non => true
  | .bl _ => true
  | .int _ => true
  | .str _ => true
  | _ => false
def opIn : D → D → Res D
  | x, .lst ys => if x.eqOk && (D.lst ys).eqOk then .ok (.bl (ys.any fun y => D.eqv y x)) else .stuck
  | _, _ => .stuck
def opNotIn : D → D → Res D
  | x, .lst ys => if x.eqOk && (D.lst ys).eqOk then .ok (.bl (!ys.any fun y => D.eqv y x)) else .stuck
  | _, _ => .stuck
def opIsB : D → D → Res D
  | .bl a, .bl b => .ok (.bl (decide (a = b)))
  | _, _ => .stuck
def opIsNotB : D → D → Res D
  | .bl a, .bl b => .ok (.bl (!decide (a = b)))
  | _, _ => .stuck
def D.isNon : D → Bool
  | .non => true
  | _ => false
def opIsNone : D → Res D := fun d => .ok (.bl d.isNon)
def opNotNone : D → Res D := fun d => .ok (.bl (!d.isNon))
def D.truth : D → Res Bool
  | .non => .ok false
  | .bl b => .ok b
  | .int i => .ok (i != 0)
  | .lst xs => .ok (!xs.isEmpty)
  | .tup xs => .ok (!xs.isEmpty)
  | _ => .stuck
/-! ### built-in functions -/
def fAbs : List D → Res D
  | [.int i] => .ok (.int (if i < 0 then -i else i))
  | _ => .stuck
def fInt : List D → Res D
  | [.int i] => .ok (.int i)
  | [.bl b] => .ok (.int (if b then 1 else 0))
  | _ => .stuck
def fLen : List D → Res D
  | [.lst xs] => .ok (.int xs.length)
  | [.tup xs] => .ok (.int xs.length)
  | _ => .stuck
def fMax2 : List D → Res D
  | [.int i, .int j] => .ok (.int (if j > i then j else i))
  | _ => .stuck
def fMin2 : List D → Res D
  | [.int i, .int j] => .ok (.int (if j < i then j else i))
  | _ => .stuck
def ints? : List D → Option (List Int)
  | [] => some []
  | .int i :: r => (ints? r).map (i :: ·)
  | _ :: _ => none
def maxL : List Int → Int
  | [] => 0
  | [a] => a
  | a :: b :: r => if a < maxL (b :: r) then maxL (b :: r) else a
def minL : List Int → Int
  | [] => 0
  | [a] => a
  | a :: b :: r => if minL (b :: r) < a then minL (b :: r) else a
def fMax : List D → Res D
  | [.lst xs] => (match ints? xs with | some (a :: r) => .ok (.int (maxL (a :: r))) | _ => .stuck)
  | _ => .stuck
def fMin : List D → Res D
  | [.lst xs] => (match ints? xs with | some (a :: r) => .ok (.int (minL (a :: r))) | _ => .stuck)
  | _ => .stuck
def fSum : List D → Res D
  | [.lst xs] => (match ints? xs with | some ns => .ok (.int ns.sum) | _ => .stuck)
  | _ => .stuck
def fList : List D → Res D
  | [.lst xs] => .ok (.lst xs)
  | [.tup xs] => .ok (.lst xs)
  | _ => .stuck
def fTuple : List D → Res D
  | [.lst xs] => .ok (.tup xs)
  | [.tup xs] => .ok (.tup xs)
  | _ => .stuck
/-- isinstance(x, T) of a built-in type -/
def isTy (T : String) : D → Option Bool
  | .non => if T = "int" ∨ T = "bool" ∨ T = "str" ∨ T = "list" ∨ T = "tuple" then some false else none
  | .bl _ => if T = "int" ∨ T = "bool" then some true else if T = "str" ∨ T = "list" ∨ T = "tuple" then some false else none
  | .int _ => if T = "int" then some true else if T = "bool" ∨ T = "str" ∨ T = "list" ∨ T = "tuple" then some false else none
  | .str _ => if T = "str" then some true else if T = "bool" ∨ T = "int" ∨ T = "list" ∨ T = "tuple" then some false else none
  | .lst _ => if T = "list" then some true else if T = "bool" ∨ T = "int" ∨ T = "str" ∨ T = "tuple" then some false else none
  | .tup _ => if T = "tuple" then some true else if T = "bool" ∨ T = "int" ∨ T = "str" ∨ T = "list" then some false else none
  | _ => none
def opIsTy (T : String) (d : D) : Res D := match isTy T d with
  | some b => .ok (.bl b)
  | none => .stuck
/-! ### items and slices -/
def ixOf (n : Nat) (i : Int) : Option Nat := if 0 ≤ i then (if i < n then some i.toNat else none) else if -(n : Int) ≤ i then some (i + n).toNat else none
def atD (xs : List D) (i : Int) : Option D := (ixOf xs.length i).bind fun j => xs[j]?
def opIx : D → D → Res D
  | .lst xs, .int i => (match atD xs i with | some d => .ok d | none => .stuck)
  | .tup xs, .int i => (match atD xs i with | some d => .ok d | none => .stuck)
  | _, _ => .stuck
def slIx (n d : Nat) : Option Int → Nat
  | none => d
  | some v => if v < 0 then (v + n).toNat else min v.toNat n
def cutD (xs : List D) (lo hi : Option Int) : List D := (xs.drop (slIx xs.length 0 lo)).take (slIx xs.length xs.length hi - slIx xs.length 0 lo)
/-! ### expressions -/
def dVar (i : Nat) : M D := fun η => match η[i]? with
  | some (some d) => .ok d
  | _ => .stuck
def dLit (d : D) : M D := fun _ => .ok d
def dOp1 (f : D → Res D) (a : M D) : M D := fun η => (a η).bind f
def dOp2 (f : D → D → Res D) (a b : M D) : M D := fun η => (a η).bind fun x => (b η).bind fun y => f x y
def toB : D → Res Bool
  | .bl b => .ok b
  | _ => .stuck
def dChain (f g : D → D → Res D) (a b c : M D) : M D := fun η => (a η).bind fun x => (b η).bind fun y => (f x y).bind fun r => (toB r).bind fun k => if k then (c η).bind fun z => g y z else .ok (.bl false)
def dAnd (a b : M D) : M D := fun η => (a η).bind fun x => (toB x).bind fun k => if k then b η else .ok (.bl false)
def dOr (a b : M D) : M D := fun η => (a η).bind fun x => (toB x).bind fun k => if k then .ok (.bl true) else b η
def dNot (a : M D) : M D := fun η => (a η).bind fun x => (toB x).bind fun k => .ok (.bl (!k))
def qB (a : M D) : M Bool := fun η => (a η).bind toB
def qTru (a : M D) : M Bool := fun η => (a η).bind D.truth
def qAnd (a b : M Bool) : M Bool := fun η => (a η).bind fun k => if k then b η else .ok false
def qOr (a b : M Bool) : M Bool := fun η => (a η).bind fun k => if k then .ok true else b η
def qNot (a : M Bool) : M Bool := fun η => (a η).bind fun k => .ok (!k)
def dIf (q : M Bool) (a b : M D) : M D := fun η => (q η).bind fun k => if k then a η else b η
def aNil : M (List D) := fun _ => .ok []
def aCons (a : M D) (r : M (List D)) : M (List D) := fun η => (a η).bind fun x => (r η).bind fun xs => .ok (x :: xs)
def dTup (a : M (List D)) : M D := fun η => (a η).bind fun xs => if xs.length ≤ line then .ok (.tup xs) else .stuck
def dLst (a : M (List D)) : M D := fun η => (a η).bind fun xs => if xs.length ≤ line then .ok (.lst xs) else .stuck
def dCall (f : List D → Res D) (a : M (List D)) : M D := fun η => (a η).bind f
abbrev oNone : M (Option Int) := fun _ => .ok none
def toI : D → Res (Option Int)
  | .int i => .ok (some i)
  | _ => .stuck
def oSome (a : M D) : M (Option Int) := fun η => (a η).bind toI
def opSl (x : D) (lo hi : Option Int) : Res D := match x with
  | .lst xs => .ok (.lst (cutD xs lo hi))
  | .tup xs => .ok (.tup (cutD xs lo hi))
  | _ => .stuck
def dSl (a : M D) (lo hi : M (Option Int)) : M D := fun η => (a η).bind fun x => (lo η).bind fun l => (hi η).bind fun h => opSl x l h
/-! ### what a for walks, what it binds -/
def items : D → Res (List D)
  | .lst xs => .ok xs
  | .tup xs => .ok xs
  | _ => .stuck
def iSeq (a : M D) : M (List D) := fun η => (a η).bind items
def rangeD (lo : Int) (n : Nat) : List D := (List.range n).map fun (k : Nat) => D.int (lo + (k : Int))
def lim62 : Int := 4611686018427387904
def iRange1 (a : M D) : M (List D) := fun η => (a η).bind fun x => match x with
  | .int j => if -lim62 ≤ j ∧ j < lim62 then .ok (rangeD 0 j.toNat) else .stuck
  | _ => .stuck
def iRange2 (a b : M D) : M (List D) := fun η => (a η).bind fun x => (b η).bind fun y => match x, y with
  | .int i, .int j => if (-lim62 ≤ i ∧ i < lim62) ∧ (-lim62 ≤ j ∧ j < lim62) then .ok (rangeD i (j - i).toNat) else .stuck
  | _, _ => .stuck
def enumD : Nat → List D → List D
  | _, [] => []
  | k, x :: xs => .tup [.int (k : Int), x] :: enumD (k + 1) xs
def zipD : List D → List D → List D
  | x :: xs, y :: ys => .tup [x, y] :: zipD xs ys
  | _, _ => []
def lstOf : D → Res (List D)
  | .lst xs => .ok xs
  | _ => .stuck
def iEnum (a : M D) : M (List D) := fun η => (a η).bind fun x => (lstOf x).bind fun xs => .ok (enumD 0 xs)
def iZip (a b : M D) : M (List D) := fun η => (a η).bind fun x => (b η).bind fun y => (lstOf x).bind fun xs => (lstOf y).bind fun ys => .ok (zipD xs ys)
def iRev (a : M D) : M (List D) := fun η => (a η).bind fun x => (lstOf x).bind fun xs => .ok xs.reverse
abbrev Bd := D → Env → Option Env
def bName (i : Nat) : Bd := fun d η => if i < η.length then some (η.set i (some d)) else none
def bNil : List D → Env → Option Env := fun ds η => match ds with | [] => some η | _ => none
def bCons (b : Bd) (r : List D → Env → Option Env) : List D → Env → Option Env := fun ds η => match ds with | d :: ds => (b d η).bind (r ds) | [] => none
def bTup (r : List D → Env → Option Env) : Bd := fun d η => match d with | .tup ds => r ds η | .lst ds => r ds η | _ => none
/-- the slots of a comprehension's own names forgotten -/
def wipeE (η : Env) : List Nat → Env
  | [] => η
  | v :: vs => (wipeE η vs).set v none
def compGo (b : Bd) (q : M Bool) (e : M D) (η : Env) : List D → List D → Res (List D)
  | [], acc => .ok acc
  | x :: xs, acc => (match b x η with
    | some η1 => (match q η1 with
      | .ok true => (match e η1 with
        | .ok d => if acc.length < line then compGo b q e η xs (acc ++ [d]) else .stuck
        | _ => .stuck)
      | .ok false => compGo b q e η xs acc
      | _ => .stuck)
    | none => .stuck)
def dComp (it : M (List D)) (b : Bd) (q : M Bool) (e : M D) (own : List Nat) : M D := fun η => (it η).bind fun xs => (compGo b q e (wipeE η own) xs []).bind fun ds => .ok (.lst ds)
abbrev qYes : M Bool := fun _ => .ok true
/-! ### statements -/
def onRes {α : Type} (r : Res α) (η : Env) (k : α → Fl) : Fl := match r with
  | .ok a => k a
  | .exc e => .ex e η
  | .stuck => .stuck
def sNext : Env → Fl := fun η => .nx η
def sBreak : Env → Fl := fun η => .bk η
def sCont : Env → Fl := fun η => .ct η
def sSeq (a b : Env → Fl) : Env → Fl := fun η => match a η with
  | .nx η' => b η'
  | r => r
def sExpr (a : M D) : Env → Fl := fun η => onRes (a η) η fun _ => .nx η
def sAsg (a : M D) (b : Bd) : Env → Fl := fun η => onRes (a η) η fun d => match b d η with | some η' => .nx η' | none => .stuck
def sAug (i : Nat) (f : D → D → Res D) (a : M D) : Env → Fl := fun η => onRes (dOp2 f (dVar i) a η) η fun d => if i < η.length then .nx (η.set i (some d)) else .stuck
/-- x[i] = e, x the list in the slot k -/
def setD (xs : List D) (i : Int) (d : D) : Option (List D) := (ixOf xs.length i).map fun j => xs.set j d
def lstAt (η : Env) (k : Nat) : Res (List D) := match η[k]? with
  | some (some (.lst xs)) => .ok xs
  | _ => .stuck
def sSet (k : Nat) (i : M D) (a : M D) : Env → Fl := fun η => onRes (a η) η fun d => onRes (lstAt η k) η fun xs => onRes (i η) η fun x => match x with
  | .int z => (match setD xs z d with | some ys => .nx (η.set k (some (.lst ys))) | none => .stuck)
  | _ => .stuck
def sApp (k : Nat) (a : M D) : Env → Fl := fun η => onRes (lstAt η k) η fun xs => onRes (a η) η fun d => if xs.length < line then .nx (η.set k (some (.lst (xs ++ [d])))) else .stuck
def sRet (a : M D) : Env → Fl := fun η => onRes (a η) η fun d => .rt d
def sRetN : Env → Fl := fun _ => .rt .non
def sIf (q : M Bool) (a b : Env → Fl) : Env → Fl := fun η => onRes (q η) η fun k => if k then a η else b η
def sRaise (e : Er) : Env → Fl := fun η => .ex e η
def forGo (b : Bd) (body : Env → Fl) : List D → Env → Fl
  | [], η => .nx η
  | x :: xs, η => (match b x η with
    | some η1 => (match body η1 with
      | .nx η' => forGo b body xs η'
      | .ct η' => forGo b body xs η'
      | .bk η' => .nx η'
      | r => r)
    | none => .stuck)
def sFor (it : M (List D)) (b : Bd) (body : Env → Fl) : Env → Fl := fun η => onRes (it η) η fun xs => forGo b body xs η
def whileGo (q : M Bool) (body : Env → Fl) : Nat → Env → Fl
  | 0, _ => .stuck
  | n + 1, η => onRes (q η) η fun k => if k then (match body η with
    | .nx η' => whileGo q body n η'
    | .ct η' => whileGo q body n η'
    | .bk η' => .nx η'
    | r => r) else .nx η
open Classical in
noncomputable def sWhile (q : M Bool) (body : Env → Fl) : Env → Fl := fun η => if h : ∃ n, whileGo q body n η ≠ .stuck then whileGo q body (Classical.choose h) η else .stuck
/-- try: body / except c as i: h (the name's slot goes behind the suite) -/
def goneFl (i : Nat) : Fl → Fl
  | .nx η => .nx (η.set i none)
  | .bk η => .bk (η.set i none)
  | .ct η => .ct (η.set i none)
  | .ex _ _ => .stuck
  | r => r
def sTryAs (body : Env → Fl) (c : Er) (i : Nat) (h : Er → Env → Fl) : Env → Fl := fun η => match body η with
  | .ex e η' => if e.own = true ∧ i < η'.length then (if e.sub c then goneFl i (h e (η'.set i none)) else .ex e η') else .stuck
  | r => r
def noEx : Fl → Fl
  | .ex _ _ => .stuck
  | r => r
def sTryOnly (body : Env → Fl) (c : Er) (h : Env → Fl) : Env → Fl := fun η => match body η with
  | .ex e η' => if e.own then (if e.sub c then noEx (h η') else .ex e η') else .stuck
  | r => r
/-- isinstance(e, c), e the error held -/
def dIsEr (e c : Er) : M D := fun _ => if e.own && c.own then .ok (.bl (e.sub c)) else .stuck
/-! ### defs -/
def mkFn (n m : Nat) (body : Env → Fl) : List D → Res D := fun ds => if ds.length = n then (match body (ds.map some ++ List.replicate (m - n) none) with
  | .rt d => .ok d
  | .nx _ => .ok .non
  | .ex e _ => .exc e
  | _ => .stuck) else .stuck
end VL
/-! VLRel: a tree is held by the heap; the slots of a frame, owned or shared. -/
namespace VL
open PySem PySem.Spec L2
structure Sta where
  K : PySem.W.Frag
  mg : Str → Option Value
  /-- in an except suite: the slot of the error's name, the error, its class -/
  hot : Option (Nat × Addr × Er)
mutual
def Rep (S : Sta) (H : Hp) : D → V → Prop
  | .non, v => v = .non
  | .bl b, v => v = .bl b
  | .int i, v => v = .int i
  | .str x, v => v = .str x
  | .byt b, v => v = .byt b
  | .lst ds, v => ∃ (a : Addr) (vs : List V), v = .ref a ∧ Rd H a (.lst vs) ∧ Reps S H ds vs
  | .tup ds, v => ∃ (a : Addr) (vs : List V), v = .ref a ∧ SqT S.K H a vs ∧ Reps S H ds vs
  | .ins c ds, v => ∃ (a C dx : Addr) (fs : List (Str × V)), v = .ref a ∧ S.mg (clsTab c).1 = some (.ref C) ∧ H a = some (.ins C dx fs) ∧ fs.map (·.1) = (clsTab c).2 ∧ Reps S H ds (fs.map (·.2))
def Reps (S : Sta) (H : Hp) : List D → List V → Prop
  | [], vs => vs = []
  | d :: ds, vs => ∃ (v : V) (ws : List V), vs = v :: ws ∧ Rep S H d v ∧ Reps S H ds ws
end
section
variable {S : Sta} {H H' : Hp}
mutual
theorem Rep.same (e : Same H H') : ∀ (d : D) (v : V), Rep S H d v → Rep S H' d v
  | .non, _, h => h
  | .bl _, _, h => h
  | .int _, _, h => h
  | .str _, _, h => h
  | .byt _, _, h => h
  | .lst ds, v, h => by
    unfold Rep at h ⊢
    obtain ⟨a, vs, h1, h2, h3⟩ := h
    refine ⟨a, vs, h1, ?_, Reps.same e ds vs h3⟩
    rcases h2 with h | ⟨o, h⟩
    · exact .inl (e _ _ h)
    · exact .inr ⟨o, e _ _ h⟩
  | .tup ds, v, h => by
    unfold Rep at h ⊢
    obtain ⟨a, vs, h1, h2, h3⟩ := h
    refine ⟨a, vs, h1, ?_, Reps.same e ds vs h3⟩
    rcases h2 with (h | ⟨o, h⟩) | h
    · exact .inl (.inl (e _ _ h))
    · exact .inl (.inr ⟨o, e _ _ h⟩)
    · exact .inr h
  | .ins c ds, v, h => by
    unfold Rep at h ⊢
    obtain ⟨a, C, dx, fs, h1, h2, h3, h4, h5⟩ := h
    exact ⟨a, C, dx, fs, h1, h2, e _ _ h3, h4, Reps.same e ds _ h5⟩
theorem Reps.same (e : Same H H') : ∀ (ds : List D) (vs : List V), Reps S H ds vs → Reps S H' ds vs
  | [], vs, h => h
  | d :: ds, vs, h => by
    unfold Reps at h ⊢
    obtain ⟨v, ws, h1, h2, h3⟩ := h
    exact ⟨v, ws, h1, Rep.same e d v h2, Reps.same e ds ws h3⟩
end
theorem Reps.nil_iff {vs : List V} : Reps S H [] vs ↔ vs = [] := by unfold Reps; exact Iff.rfl
theorem Reps.cons_iff {d : D} {ds : List D} {vs : List V} : Reps S H (d :: ds) vs ↔ ∃ v ws, vs = v :: ws ∧ Rep S H d v ∧ Reps S H ds ws := by
  constructor
  · intro h; unfold Reps at h; exact h
  · intro h; unfold Reps; exact h
theorem Reps.length : ∀ {ds : List D} {vs : List V}, Reps S H ds vs → vs.length = ds.length
  | [], vs, h => by rw [Reps.nil_iff.mp h] <;> rfl
  | d :: ds, vs, h => by
    obtain ⟨v, ws, rfl, _, h3⟩ := Reps.cons_iff.mp h
    rw [List.length_cons, List.length_cons, Reps.length h3]
theorem Reps.get : ∀ {ds : List D} {vs : List V} {i : Nat} {d : D}, Reps S H ds vs → ds[i]? = some d → ∃ v, vs[i]? = some v ∧ Rep S H d v
  | [], _, _, _, _, e => by simp at e
  | d :: ds, vs, 0, d', h, e => by
    obtain ⟨v, ws, rfl, h2, _⟩ := Reps.cons_iff.mp h
    have e' : d = d' := by simpa using e
    subst e'
    exact ⟨v, rfl, h2⟩
  | d :: ds, vs, i + 1, d', h, e => by
    obtain ⟨v, ws, rfl, _, h3⟩ := Reps.cons_iff.mp h
    obtain ⟨v', q1, q2⟩ := Reps.get (i := i) h3 (by simpa using e)
    exact ⟨v', by simpa using q1, q2⟩
theorem Reps.set : ∀ {ds : List D} {vs : List V} (i : Nat) {d : D} {v : V}, Reps S H ds vs → Rep S H d v → Reps S H (ds.set i d) (vs.set i v)
  | [], vs, i, d, v, h, _ => by rw [Reps.nil_iff.mp h]; exact Reps.nil_iff.mpr rfl
  | e :: ds, vs, 0, d, v, h, r => by
    obtain ⟨v', ws, rfl, _, h3⟩ := Reps.cons_iff.mp h
    exact Reps.cons_iff.mpr ⟨v, ws, rfl, r, h3⟩
  | e :: ds, vs, i + 1, d, v, h, r => by
    obtain ⟨v', ws, rfl, h2, h3⟩ := Reps.cons_iff.mp h
    exact Reps.cons_iff.mpr ⟨v', ws.set i v, rfl, h2, Reps.set i h3 r⟩
theorem Reps.append : ∀ {ds es : List D} {vs ws : List V}, Reps S H ds vs → Reps S H es ws → Reps S H (ds ++ es) (vs ++ ws)
  | [], es, vs, ws, h, r => by rw [Reps.nil_iff.mp h]; exact r
  | d :: ds, es, vs, ws, h, r => by
    obtain ⟨v', us, rfl, h2, h3⟩ := Reps.cons_iff.mp h
    exact Reps.cons_iff.mpr ⟨v', us ++ ws, rfl, h2, Reps.append h3 r⟩
theorem Reps.one {d : D} {v : V} (h : Rep S H d v) : Reps S H [d] [v] := Reps.cons_iff.mpr ⟨v, [], rfl, h, Reps.nil_iff.mpr rfl⟩
theorem Reps.drop : ∀ {ds : List D} {vs : List V} (n : Nat), Reps S H ds vs → Reps S H (ds.drop n) (vs.drop n)
  | _, _, 0, h => h
  | [], vs, n + 1, h => by rw [Reps.nil_iff.mp h]; exact Reps.nil_iff.mpr rfl
  | d :: ds, vs, n + 1, h => by
    obtain ⟨v', us, rfl, h2, h3⟩ := Reps.cons_iff.mp h
    exact Reps.drop n h3
theorem Reps.take : ∀ {ds : List D} {vs : List V} (n : Nat), Reps S H ds vs → Reps S H (ds.take n) (vs.take n)
  | _, _, 0, h => Reps.nil_iff.mpr rfl
  | [], vs, n + 1, h => by rw [Reps.nil_iff.mp h]; exact Reps.nil_iff.mpr rfl
  | d :: ds, vs, n + 1, h => by
    obtain ⟨v', us, rfl, h2, h3⟩ := Reps.cons_iff.mp h
    exact Reps.cons_iff.mpr ⟨v', us.take n, rfl, h2, Reps.take n h3⟩
theorem Reps.reverse : ∀ {ds : List D} {vs : List V}, Reps S H ds vs → Reps S H ds.reverse vs.reverse
  | [], vs, h => by rw [Reps.nil_iff.mp h]; exact Reps.nil_iff.mpr rfl
  | d :: ds, vs, h => by
    obtain ⟨v', us, rfl, h2, h3⟩ := Reps.cons_iff.mp h
    rw [List.reverse_cons, List.reverse_cons]
    exact Reps.append (Reps.reverse h3) (Reps.one h2)
theorem Reps.rep {ds : List D} {vs : List V} (h : Reps S H ds vs) : ∀ k : Nat, Reps S H (List.replicate k ds).flatten (List.replicate k vs).flatten
  | 0 => Reps.nil_iff.mpr rfl
  | k + 1 => by
    rw [List.replicate_succ, List.replicate_succ, List.flatten_cons, List.flatten_cons]
    exact Reps.append h (Reps.rep h k)
theorem Reps.ints : ∀ {ds : List D} {vs : List V} {ns : List Int}, Reps S H ds vs → ints? ds = some ns → vs = ns.map V.int
  | [], vs, ns, h, e => by
    rw [Reps.nil_iff.mp h]
    have e' : ([] : List Int) = ns := Option.some.inj e
    rw [← e']; rfl
  | .int i :: ds, vs, ns, h, e => by
    obtain ⟨v', us, rfl, h2, h3⟩ := Reps.cons_iff.mp h
    unfold ints? at e
    obtain ⟨ms, e1, e2⟩ := Option.map_eq_some_iff.mp e
    unfold Rep at h2
    rw [h2, Reps.ints h3 e1, ← e2]; rfl
  | .non :: _, _, _, _, e => by simp [ints?] at e
  | .bl _ :: _, _, _, _, e => by simp [ints?] at e
  | .str _ :: _, _, _, _, e => by simp [ints?] at e
  | .byt _ :: _, _, _, _, e => by simp [ints?] at e
  | .lst _ :: _, _, _, _, e => by simp [ints?] at e
  | .tup _ :: _, _, _, _, e => by simp [ints?] at e
  | .ins _ _ :: _, _, _, _, e => by simp [ints?] at e
theorem Reps.of_ints : ∀ ns : List Int, Reps S H (ns.map D.int) (ns.map V.int)
  | [] => Reps.nil_iff.mpr rfl
  | n :: ns => Reps.cons_iff.mpr ⟨.int n, ns.map V.int, rfl, by unfold Rep; rfl, Reps.of_ints ns⟩
mutual
theorem Rep.dp : ∀ (d : D) (v : V), d.plain = true → Rep S H d v → Dp S.K H v d.toPD
  | .non, v, _, h => by unfold Rep at h; rw [h]; exact .non
  | .bl b, v, _, h => by unfold Rep at h; rw [h]; exact .bl b
  | .int i, v, _, h => by unfold Rep at h; rw [h]; exact .int i
  | .str x, v, _, h => by unfold Rep at h; rw [h]; exact .str x
  | .lst ds, v, p, h => by
    unfold Rep at h
    obtain ⟨a, vs, rfl, h2, h3⟩ := h
    unfold D.plain at p
    unfold D.toPD
    exact .lst (.inl h2) (Reps.dps ds vs p h3)
  | .tup ds, v, p, h => by
    unfold Rep at h
    obtain ⟨a, vs, rfl, h2, h3⟩ := h
    unfold D.plain at p
    unfold D.toPD
    exact .tup h2 (Reps.dps ds vs p h3)
  | .byt _, _, p, _ => by simp [D.plain] at p
  | .ins _ _, _, p, _ => by simp [D.plain] at p
theorem Reps.dps : ∀ (ds : List D) (vs : List V), D.plains ds = true → Reps S H ds vs → DpAll S.K H vs (D.toPDs ds)
  | [], vs, _, h => by rw [Reps.nil_iff.mp h]; unfold D.toPDs; exact .nil
  | d :: ds, vs, p, h => by
    obtain ⟨v', us, rfl, h2, h3⟩ := Reps.cons_iff.mp h
    unfold D.plains at p
    rw [Bool.and_eq_true] at p
    unfold D.toPDs
    exact .cons (Rep.dp d v' p.1 h2) (Reps.dps ds us p.2 h3)
end
end

/-! ### owned -/
mutual
/-- depth n of d is this frame's own: lists at F, not to be seen in the shared part Hs -/
def Own (S : Sta) (H Hs : Hp) : D → Nat → V → List Addr → Prop
  | .lst ds, n, v, F => (match n with
    | 0 => F = [] ∧ Rep S Hs (.lst ds) v
    | n + 1 => ∃ (a : Addr) (vs : List V) (G : List Addr), v = .ref a ∧ F = a :: G ∧ H a = some (.lst vs) ∧ Owns S H Hs ds n vs G)
  | .non, _, v, F => F = [] ∧ Rep S Hs .non v
  | .bl b, _, v, F => F = [] ∧ Rep S Hs (.bl b) v
  | .int i, _, v, F => F = [] ∧ Rep S Hs (.int i) v
  | .str x, _, v, F => F = [] ∧ Rep S Hs (.str x) v
  | .byt b, _, v, F => F = [] ∧ Rep S Hs (.byt b) v
  | .tup ds, _, v, F => F = [] ∧ Rep S Hs (.tup ds) v
  | .ins c ds, _, v, F => F = [] ∧ Rep S Hs (.ins c ds) v
def Owns (S : Sta) (H Hs : Hp) : List D → Nat → List V → List Addr → Prop
  | [], _, vs, F => vs = [] ∧ F = []
  | d :: ds, n, vs, F => ∃ (v : V) (ws : List V) (F1 F2 : List Addr), vs = v :: ws ∧ F = F1 ++ F2 ∧ Own S H Hs d n v F1 ∧ Owns S H Hs ds n ws F2
end
section
variable {S : Sta} {H H' Hs Hs' : Hp}
theorem Own.zero {d : D} {v : V} {F : List Addr} : Own S H Hs d 0 v F ↔ F = [] ∧ Rep S Hs d v := by
  cases d <;> (unfold Own; exact Iff.rfl)
theorem Own.succ {ds : List D} {n : Nat} {v : V} {F : List Addr} : Own S H Hs (.lst ds) (n + 1) v F ↔ ∃ (a : Addr) (vs : List V) (G : List Addr), v = .ref a ∧ F = a :: G ∧ H a = some (.lst vs) ∧ Owns S H Hs ds n vs G := by
  unfold Own; exact Iff.rfl
def D.isLst : D → Bool
  | .lst _ => true
  | _ => false
theorem Own.other {d : D} {n : Nat} {v : V} {F : List Addr} (h : d.isLst = false) : Own S H Hs d n v F ↔ F = [] ∧ Rep S Hs d v := by
  cases d <;> first | (unfold Own; exact Iff.rfl) | (simp [D.isLst] at h)
theorem Owns.nil {n : Nat} {vs : List V} {F : List Addr} : Owns S H Hs [] n vs F ↔ vs = [] ∧ F = [] := by unfold Owns; exact Iff.rfl
theorem Owns.cons {d : D} {ds : List D} {n : Nat} {vs : List V} {F : List Addr} : Owns S H Hs (d :: ds) n vs F ↔ ∃ (v : V) (ws : List V) (F1 F2 : List Addr), vs = v :: ws ∧ F = F1 ++ F2 ∧ Own S H Hs d n v F1 ∧ Owns S H Hs ds n ws F2 := by first | exact Iff.rfl | rw [Owns.eq_2]
/-- the heap changes outside of F, the shared part grows -/
theorem Own.move (e : Same Hs Hs') : ∀ (d : D) (n : Nat) (v : V) (F : List Addr), (∀ a ∈ F, H' a = H a) → Own S H Hs d n v F → Own S H' Hs' d n v F := by
  intro d
  refine D.rec (motive_1 := fun d => ∀ (n : Nat) (v : V) (F : List Addr), (∀ a ∈ F, H' a = H a) → Own S H Hs d n v F → Own S H' Hs' d n v F)
    (motive_2 := fun ds => ∀ (n : Nat) (vs : List V) (F : List Addr), (∀ a ∈ F, H' a = H a) → Owns S H Hs ds n vs F → Owns S H' Hs' ds n vs F) ?_ ?_ ?_ ?_ ?_ ?_ ?_ ?_ ?_ ?_ d
  · intro n v F _ h; exact (Own.other rfl).mpr ⟨((Own.other rfl).mp h).1, ((Own.other rfl).mp h).2.same e⟩
  · intro b n v F _ h; exact (Own.other rfl).mpr ⟨((Own.other rfl).mp h).1, ((Own.other rfl).mp h).2.same e⟩
  · intro b n v F _ h; exact (Own.other rfl).mpr ⟨((Own.other rfl).mp h).1, ((Own.other rfl).mp h).2.same e⟩
  · intro b n v F _ h; exact (Own.other rfl).mpr ⟨((Own.other rfl).mp h).1, ((Own.other rfl).mp h).2.same e⟩
  · intro b n v F _ h; exact (Own.other rfl).mpr ⟨((Own.other rfl).mp h).1, ((Own.other rfl).mp h).2.same e⟩
  · intro ds ih n v F k h
    cases n with
    | zero => exact Own.zero.mpr ⟨(Own.zero.mp h).1, (Own.zero.mp h).2.same e⟩
    | succ n =>
      obtain ⟨a, vs, G, rfl, rfl, h1, h2⟩ := Own.succ.mp h
      exact Own.succ.mpr ⟨a, vs, G, rfl, rfl, (k a List.mem_cons_self).trans h1, ih n vs G (fun b hb => k b (List.mem_cons_of_mem _ hb)) h2⟩
  · intro ds _ n v F _ h; exact (Own.other rfl).mpr ⟨((Own.other rfl).mp h).1, ((Own.other rfl).mp h).2.same e⟩
  · intro c ds _ n v F _ h; exact (Own.other rfl).mpr ⟨((Own.other rfl).mp h).1, ((Own.other rfl).mp h).2.same e⟩
  · intro n vs F _ h; exact Owns.nil.mpr (Owns.nil.mp h)
  · intro d ds ih1 ih2 n vs F k h
    obtain ⟨v, ws, F1, F2, rfl, rfl, h1, h2⟩ := Owns.cons.mp h
    exact Owns.cons.mpr ⟨v, ws, F1, F2, rfl, rfl, ih1 n v F1 (fun a ha => k a (List.mem_append_left _ ha)) h1, ih2 n ws F2 (fun a ha => k a (List.mem_append_right _ ha)) h2⟩
/-- the owned parts become shared -/
theorem Own.froz (e : Same Hs Hs') : ∀ (d : D) (n : Nat) (v : V) (F : List Addr), (∀ a ∈ F, Hs' a = H a) → Own S H Hs d n v F → Rep S Hs' d v := by
  intro d
  refine D.rec (motive_1 := fun d => ∀ (n : Nat) (v : V) (F : List Addr), (∀ a ∈ F, Hs' a = H a) → Own S H Hs d n v F → Rep S Hs' d v)
    (motive_2 := fun ds => ∀ (n : Nat) (vs : List V) (F : List Addr), (∀ a ∈ F, Hs' a = H a) → Owns S H Hs ds n vs F → Reps S Hs' ds vs) ?_ ?_ ?_ ?_ ?_ ?_ ?_ ?_ ?_ ?_ d
  · intro n v F _ h; exact ((Own.other rfl).mp h).2.same e
  · intro b n v F _ h; exact ((Own.other rfl).mp h).2.same e
  · intro b n v F _ h; exact ((Own.other rfl).mp h).2.same e
  · intro b n v F _ h; exact ((Own.other rfl).mp h).2.same e
  · intro b n v F _ h; exact ((Own.other rfl).mp h).2.same e
  · intro ds ih n v F k h
    cases n with
    | zero => exact (Own.zero.mp h).2.same e
    | succ n =>
      obtain ⟨a, vs, G, rfl, rfl, h1, h2⟩ := Own.succ.mp h
      unfold Rep
      exact ⟨a, vs, rfl, Rd.of ((k a List.mem_cons_self).trans h1), ih n vs G (fun b hb => k b (List.mem_cons_of_mem _ hb)) h2⟩
  · intro ds _ n v F _ h; exact ((Own.other rfl).mp h).2.same e
  · intro c ds _ n v F _ h; exact ((Own.other rfl).mp h).2.same e
  · intro n vs F _ h; exact Reps.nil_iff.mpr (Owns.nil.mp h).1
  · intro d ds ih1 ih2 n vs F k h
    obtain ⟨v, ws, F1, F2, rfl, rfl, h1, h2⟩ := Owns.cons.mp h
    exact Reps.cons_iff.mpr ⟨v, ws, rfl, ih1 n v F1 (fun a ha => k a (List.mem_append_left _ ha)) h1, ih2 n ws F2 (fun a ha => k a (List.mem_append_right _ ha)) h2⟩
/-- what is owned stands in the heap -/
theorem Own.there : ∀ (d : D) (n : Nat) (v : V) (F : List Addr), Own S H Hs d n v F → ∀ a ∈ F, ∃ o, H a = some o := by
  intro d
  refine D.rec (motive_1 := fun d => ∀ (n : Nat) (v : V) (F : List Addr), Own S H Hs d n v F → ∀ a ∈ F, ∃ o, H a = some o)
    (motive_2 := fun ds => ∀ (n : Nat) (vs : List V) (F : List Addr), Owns S H Hs ds n vs F → ∀ a ∈ F, ∃ o, H a = some o) ?_ ?_ ?_ ?_ ?_ ?_ ?_ ?_ ?_ ?_ d
  · intro n v F h a ha; rw [((Own.other rfl).mp h).1] at ha; cases ha
  · intro b n v F h a ha; rw [((Own.other rfl).mp h).1] at ha; cases ha
  · intro b n v F h a ha; rw [((Own.other rfl).mp h).1] at ha; cases ha
  · intro b n v F h a ha; rw [((Own.other rfl).mp h).1] at ha; cases ha
  · intro b n v F h a ha; rw [((Own.other rfl).mp h).1] at ha; cases ha
  · intro ds ih n v F h a ha
    cases n with
    | zero => rw [(Own.zero.mp h).1] at ha; cases ha
    | succ n =>
      obtain ⟨b, vs, G, rfl, rfl, h1, h2⟩ := Own.succ.mp h
      rcases List.mem_cons.mp ha with e | ha
      · rw [e]; exact ⟨_, h1⟩
      · exact ih n vs G h2 a ha
  · intro ds _ n v F h a ha; rw [((Own.other rfl).mp h).1] at ha; cases ha
  · intro c ds _ n v F h a ha; rw [((Own.other rfl).mp h).1] at ha; cases ha
  · intro n vs F h a ha; rw [(Owns.nil.mp h).2] at ha; cases ha
  · intro d ds ih1 ih2 n vs F h a ha
    obtain ⟨v, ws, F1, F2, rfl, rfl, h1, h2⟩ := Owns.cons.mp h
    rcases List.mem_append.mp ha with ha | ha
    · exact ih1 n v F1 h1 a ha
    · exact ih2 n ws F2 h2 a ha
theorem Owns.of_reps : ∀ {ds : List D} {vs : List V}, Reps S Hs ds vs → Owns S H Hs ds 0 vs []
  | [], vs, h => Owns.nil.mpr ⟨Reps.nil_iff.mp h, rfl⟩
  | d :: ds, vs, h => by
    obtain ⟨v, ws, rfl, h1, h2⟩ := Reps.cons_iff.mp h
    exact Owns.cons.mpr ⟨v, ws, [], [], rfl, rfl, Own.zero.mpr ⟨rfl, h1⟩, Owns.of_reps h2⟩
theorem Owns.reps : ∀ {ds : List D} {vs : List V} {F : List Addr}, Owns S H Hs ds 0 vs F → F = [] ∧ Reps S Hs ds vs
  | [], vs, F, h => ⟨(Owns.nil.mp h).2, Reps.nil_iff.mpr (Owns.nil.mp h).1⟩
  | d :: ds, vs, F, h => by
    obtain ⟨v, ws, F1, F2, rfl, rfl, h1, h2⟩ := Owns.cons.mp h
    obtain ⟨e2, r2⟩ := Owns.reps h2
    obtain ⟨e1, r1⟩ := Own.zero.mp h1
    subst e1 e2
    exact ⟨rfl, Reps.cons_iff.mpr ⟨v, ws, rfl, r1, r2⟩⟩
theorem Owns.length : ∀ {ds : List D} {n : Nat} {vs : List V} {F : List Addr}, Owns S H Hs ds n vs F → vs.length = ds.length
  | [], n, vs, F, h => by rw [(Owns.nil.mp h).1] <;> rfl
  | d :: ds, n, vs, F, h => by
    obtain ⟨v, ws, F1, F2, rfl, rfl, h1, h2⟩ := Owns.cons.mp h
    rw [List.length_cons, List.length_cons, Owns.length h2]
theorem Owns.append : ∀ {ds es : List D} {n : Nat} {vs ws : List V} {F G : List Addr}, Owns S H Hs ds n vs F → Owns S H Hs es n ws G → Owns S H Hs (ds ++ es) n (vs ++ ws) (F ++ G)
  | [], es, n, vs, ws, F, G, h, r => by
    obtain ⟨rfl, rfl⟩ := Owns.nil.mp h
    exact r
  | d :: ds, es, n, vs, ws, F, G, h, r => by
    obtain ⟨v, us, F1, F2, rfl, rfl, h1, h2⟩ := Owns.cons.mp h
    exact Owns.cons.mpr ⟨v, us ++ ws, F1, F2 ++ G, rfl, List.append_assoc .., h1, Owns.append h2 r⟩
theorem Owns.one {d : D} {n : Nat} {v : V} {F : List Addr} (h : Own S H Hs d n v F) : Owns S H Hs [d] n [v] F := Owns.cons.mpr ⟨v, [], F, [], rfl, (List.append_nil _).symm, h, Owns.nil.mpr ⟨rfl, rfl⟩⟩
end

/-! ### steps -/
/-- an expression has run: all that stood stands, the shared part has grown by new objects, Fr is new -/
structure Step (H Hs H' Hs' : Hp) (Fr : List Addr) : Prop where
  all : Same H H'
  shr : Same Hs Hs'
  sub : Same Hs' H'
  new : ∀ a, Hs a = none → (∃ o, H a = some o) → Hs' a = none
  fr : ∀ a ∈ Fr, H a = none ∧ Hs' a = none
  nd : Fr.Nodup
/-! ### a frame's slots: entered at H0, of which G0 is shared -/
structure EOk (S : Sta) (H0 G0 H Hs : Hp) (Γ : List Nat) (F : Nat → List Addr) (σ : L2.St) (η : Env) : Prop where
  st : Step H0 G0 H Hs []
  len : σ.length = η.length
  slot : ∀ i d, η[i]? = some (some d) → ∃ v, σ[i]? = some (some v) ∧ Own S H Hs d (Γ.getD i 0) v (F i)
  hid : ∀ i a, a ∈ F i → Hs a = none ∧ H0 a = none ∧ ∃ o, H a = some o
  disj : ∀ i j a, a ∈ F i → a ∈ F j → i = j
  nd : ∀ i, (F i).Nodup
  hot : ∀ i a e, S.hot = some (i, a, e) → σ[i]? = some (some (.ref a))
section
variable {S : Sta} {H0 G0 H H1 H2 Hs Hs1 Hs2 : Hp} {Γ : List Nat} {F : Nat → List Addr} {σ : St} {η : Env} {Fr : List Addr}
theorem Step.refl (h : Same Hs H) : Step H Hs H Hs [] := ⟨Same.refl _, Same.refl _, h, fun _ h _ => h, fun _ h => absurd h List.not_mem_nil, List.nodup_nil⟩
theorem Step.trans (a : Step H Hs H1 Hs1 []) (b : Step H1 Hs1 H2 Hs2 Fr) : Step H Hs H2 Hs2 Fr where
  all := a.all.trans b.all
  shr := a.shr.trans b.shr
  sub := b.sub
  new := fun x h1 ⟨o, h2⟩ => b.new x (a.new x h1 ⟨o, h2⟩) ⟨o, a.all x o h2⟩
  fr := fun x hx => ⟨a.all.free (b.fr x hx).1, (b.fr x hx).2⟩
  nd := b.nd
/-- a new shared object -/
theorem Step.newS {p : Addr} {o : HO} (h : Same Hs H) (hp : H p = none) : Step H Hs (upd H p o) (upd Hs p o) [] where
  all := fun b u e => by rw [upd_ne (ne_of_none e hp)]; exact e
  shr := fun b u e => by rw [upd_ne (ne_of_none (h b u e) hp)]; exact e
  sub := fun b u e => by
    by_cases hb : b = p
    · subst hb; rw [upd_same] at e ⊢; exact e
    · rw [upd_ne hb] at e ⊢; exact h b u e
  new := fun a h1 ⟨u, h2⟩ => by rw [upd_ne (ne_of_none h2 hp)]; exact h1
  fr := fun _ h => absurd h List.not_mem_nil
  nd := List.nodup_nil
/-- a new object of one's own -/
theorem Step.newO {p : Addr} {o : HO} (h : Same Hs H) (hp : H p = none) : Step H Hs (upd H p o) Hs [p] where
  all := fun b u e => by rw [upd_ne (ne_of_none e hp)]; exact e
  shr := Same.refl _
  sub := fun b u e => by rw [upd_ne (ne_of_none (h b u e) hp)]; exact h b u e
  new := fun a h1 _ => h1
  fr := fun a ha => by
    obtain rfl : a = p := by simpa using ha
    exact ⟨hp, h.free hp⟩
  nd := by simp
/-- the new parts are shared -/
theorem Step.froz (a : Step H Hs H1 Hs1 Fr) : ∃ Hs2, Step H Hs H1 Hs2 [] ∧ Same Hs1 Hs2 ∧ ∀ x ∈ Fr, Hs2 x = H1 x := by
  classical
  refine ⟨fun x => if x ∈ Fr then H1 x else Hs1 x, ⟨a.all, fun x o e => ?_, fun x o e => ?_, fun x h1 h2 => ?_, fun _ h => absurd h List.not_mem_nil, List.nodup_nil⟩, fun x o e => ?_, fun x hx => if_pos hx⟩
  · have n : x ∉ Fr := fun hx => by have z := (a.fr x hx).2; rw [a.shr x o e] at z; cases z
    show (if x ∈ Fr then H1 x else Hs1 x) = some o
    rw [if_neg n]; exact a.shr x o e
  · have e' : (if x ∈ Fr then H1 x else Hs1 x) = some o := e
    by_cases hx : x ∈ Fr
    · rw [if_pos hx] at e'; exact e'
    · rw [if_neg hx] at e'; exact a.sub x o e'
  · show (if x ∈ Fr then H1 x else Hs1 x) = none
    have n : x ∉ Fr := fun hx => by
      obtain ⟨o, ho⟩ := h2
      rw [(a.fr x hx).1] at ho; cases ho
    rw [if_neg n]; exact a.new x h1 h2
  · show (if x ∈ Fr then H1 x else Hs1 x) = some o
    have n : x ∉ Fr := fun hx => by rw [(a.fr x hx).2] at e; cases e
    rw [if_neg n]; exact e
theorem Step.drop (a : Step H Hs H1 Hs1 Fr) : Step H Hs H1 Hs1 [] := ⟨a.all, a.shr, a.sub, a.new, fun _ h => absurd h List.not_mem_nil, List.nodup_nil⟩
theorem EOk.sub (ok : EOk S H0 G0 H Hs Γ F σ η) : Same Hs H := ok.st.sub
theorem EOk.step (ok : EOk S H0 G0 H Hs Γ F σ η) (a : Step H Hs H1 Hs1 Fr) : EOk S H0 G0 H1 Hs1 Γ F σ η where
  st := ok.st.trans a.drop
  len := ok.len
  slot := fun i d e => by
    obtain ⟨v, h1, h2⟩ := ok.slot i d e
    refine ⟨v, h1, h2.move a.shr d _ v _ fun x hx => ?_⟩
    obtain ⟨o, ho⟩ := h2.there d _ v _ x hx
    rw [ho, a.all x o ho]
  hid := fun i x hx => by
    obtain ⟨h1, h3, o, h2⟩ := ok.hid i x hx
    exact ⟨a.new x h1 ⟨o, h2⟩, h3, o, a.all x o h2⟩
  disj := ok.disj
  nd := ok.nd
  hot := ok.hot
/-- all slots shared -/
theorem EOk.froz (ok : EOk S H0 G0 H Hs Γ F σ η) (p : Nat → Bool) : ∃ Hs' F', EOk S H0 G0 H Hs' ((List.range Γ.length).map fun i => if p i then Γ.getD i 0 else 0) F' σ η ∧ Same Hs Hs' ∧ (∀ i, p i = true → F' i = F i) := by
  classical
  have hG : ∀ i, ((List.range Γ.length).map fun i => if p i then Γ.getD i 0 else 0).getD i 0 = if p i then Γ.getD i 0 else 0 := fun i => by
    by_cases hi : i < Γ.length
    · simp [List.getD, hi]
    · have e : Γ.getD i 0 = 0 := by simp [List.getD, hi]
      rw [e]
      simp [List.getD, hi]
  refine ⟨fun x => if ∃ i, p i = false ∧ x ∈ F i then H x else Hs x, fun i => if p i then F i else [], ⟨⟨ok.st.all, fun x o e => ?_, fun x o e => ?_, fun x h1 h2 => ?_, fun _ h => absurd h List.not_mem_nil, List.nodup_nil⟩, ok.len, fun i d e => ?_, fun i a ha => ?_, fun i j a ha hb => ?_, fun i => ?_, ok.hot⟩, fun x o e => ?_, fun i hi => by simp [hi]⟩
  · have n : ¬ ∃ i, p i = false ∧ x ∈ F i := fun ⟨i, _, hx⟩ => by
      have y := (ok.hid i x hx).1
      rw [ok.st.shr x o e] at y
      cases y
    show (if ∃ i, p i = false ∧ x ∈ F i then H x else Hs x) = some o
    rw [if_neg n]; exact ok.st.shr x o e
  · have e' : (if ∃ i, p i = false ∧ x ∈ F i then H x else Hs x) = some o := e
    by_cases hx : ∃ i, p i = false ∧ x ∈ F i
    · rw [if_pos hx] at e'; exact e'
    · rw [if_neg hx] at e'; exact ok.st.sub x o e'
  · show (if ∃ i, p i = false ∧ x ∈ F i then H x else Hs x) = none
    have n : ¬ ∃ i, p i = false ∧ x ∈ F i := fun ⟨i, _, hx⟩ => by
      obtain ⟨o, ho⟩ := h2
      rw [(ok.hid i x hx).2.1] at ho; cases ho
    rw [if_neg n]; exact ok.st.new x h1 h2
  · obtain ⟨v, h1, h2⟩ := ok.slot i d e
    have sm : Same Hs (fun x => if ∃ i, p i = false ∧ x ∈ F i then H x else Hs x) := fun x o e => by
      show (if ∃ i, p i = false ∧ x ∈ F i then H x else Hs x) = some o
      have n : ¬ ∃ i, p i = false ∧ x ∈ F i := fun ⟨i, _, hx⟩ => by rw [(ok.hid i x hx).1] at e; cases e
      rw [if_neg n]; exact e
    refine ⟨v, h1, ?_⟩
    rw [hG]
    cases hp : p i with
    | true =>
      simp only [if_true]
      exact h2.move sm d _ v _ fun _ _ => rfl
    | false =>
      simp only [Bool.false_eq_true, if_false]
      exact Own.zero.mpr ⟨rfl, h2.froz sm d _ v _ fun x hx => if_pos ⟨i, hp, hx⟩⟩
  · cases hp : p i with
    | true =>
      simp only [hp, if_true] at ha
      obtain ⟨h1, h2⟩ := ok.hid i a ha
      refine ⟨?_, h2⟩
      show (if ∃ i, p i = false ∧ a ∈ F i then H a else Hs a) = none
      rw [if_neg (fun ⟨j, hj, hx⟩ => by
        have := ok.disj i j a ha hx
        subst this
        rw [hp] at hj; cases hj)]
      exact h1
    | false => simp [hp] at ha
  · cases hp : p i with
    | true =>
      cases hq : p j with
      | true =>
        simp only [hp, hq, if_true] at ha hb
        exact ok.disj i j a ha hb
      | false => simp [hq] at hb
    | false => simp [hp] at ha
  · cases hp : p i with
    | true => simp only [if_true]; exact ok.nd i
    | false => simp
  · show (if ∃ i, p i = false ∧ x ∈ F i then H x else Hs x) = some o
    have n : ¬ ∃ i, p i = false ∧ x ∈ F i := fun ⟨i, _, hx⟩ => by rw [(ok.hid i x hx).1] at e; cases e
    rw [if_neg n]; exact e
end
/-! ### what the error held does not matter to -/
section
variable {K : PySem.W.Frag} {mg : Str → Option Value} {h h' : Option (Nat × Addr × Er)} {H Hs : Hp}
mutual
theorem Rep.cool : ∀ (d : D) (v : V), Rep ⟨K, mg, h⟩ H d v → Rep ⟨K, mg, h'⟩ H d v
  | .non, _, q => q
  | .bl _, _, q => q
  | .int _, _, q => q
  | .str _, _, q => q
  | .byt _, _, q => q
  | .lst ds, v, q => by
    unfold Rep at q ⊢
    obtain ⟨a, vs, h1, h2, h3⟩ := q
    exact ⟨a, vs, h1, h2, Reps.cool ds vs h3⟩
  | .tup ds, v, q => by
    unfold Rep at q ⊢
    obtain ⟨a, vs, h1, h2, h3⟩ := q
    exact ⟨a, vs, h1, h2, Reps.cool ds vs h3⟩
  | .ins c ds, v, q => by
    unfold Rep at q ⊢
    obtain ⟨a, C, dx, fs, h1, h2, h3, h4, h5⟩ := q
    exact ⟨a, C, dx, fs, h1, h2, h3, h4, Reps.cool ds _ h5⟩
theorem Reps.cool : ∀ (ds : List D) (vs : List V), Reps ⟨K, mg, h⟩ H ds vs → Reps ⟨K, mg, h'⟩ H ds vs
  | [], vs, q => q
  | d :: ds, vs, q => by
    unfold Reps at q ⊢
    obtain ⟨v, ws, h1, h2, h3⟩ := q
    exact ⟨v, ws, h1, Rep.cool d v h2, Reps.cool ds ws h3⟩
end
theorem Own.cool (d : D) : ∀ (n : Nat) (v : V) (F : List Addr), Own ⟨K, mg, h⟩ H Hs d n v F → Own ⟨K, mg, h'⟩ H Hs d n v F := by
  refine D.rec (motive_1 := fun d => ∀ (n : Nat) (v : V) (F : List Addr), Own ⟨K, mg, h⟩ H Hs d n v F → Own ⟨K, mg, h'⟩ H Hs d n v F)
    (motive_2 := fun ds => ∀ (n : Nat) (vs : List V) (F : List Addr), Owns ⟨K, mg, h⟩ H Hs ds n vs F → Owns ⟨K, mg, h'⟩ H Hs ds n vs F) ?_ ?_ ?_ ?_ ?_ ?_ ?_ ?_ ?_ ?_ d
  · intro n v F q; exact (Own.other rfl).mpr ⟨((Own.other rfl).mp q).1, ((Own.other rfl).mp q).2.cool⟩
  · intro b n v F q; exact (Own.other rfl).mpr ⟨((Own.other rfl).mp q).1, ((Own.other rfl).mp q).2.cool⟩
  · intro b n v F q; exact (Own.other rfl).mpr ⟨((Own.other rfl).mp q).1, ((Own.other rfl).mp q).2.cool⟩
  · intro b n v F q; exact (Own.other rfl).mpr ⟨((Own.other rfl).mp q).1, ((Own.other rfl).mp q).2.cool⟩
  · intro b n v F q; exact (Own.other rfl).mpr ⟨((Own.other rfl).mp q).1, ((Own.other rfl).mp q).2.cool⟩
  · intro ds ih n v F q
    cases n with
    | zero => exact Own.zero.mpr ⟨(Own.zero.mp q).1, (Own.zero.mp q).2.cool⟩
    | succ n =>
      obtain ⟨a, vs, G, rfl, rfl, h1, h2⟩ := Own.succ.mp q
      exact Own.succ.mpr ⟨a, vs, G, rfl, rfl, h1, ih n vs G h2⟩
  · intro ds _ n v F q; exact (Own.other rfl).mpr ⟨((Own.other rfl).mp q).1, ((Own.other rfl).mp q).2.cool⟩
  · intro c ds _ n v F q; exact (Own.other rfl).mpr ⟨((Own.other rfl).mp q).1, ((Own.other rfl).mp q).2.cool⟩
  · intro n vs F q; exact Owns.nil.mpr (Owns.nil.mp q)
  · intro d ds ih1 ih2 n vs F q
    obtain ⟨v, ws, F1, F2, rfl, rfl, h1, h2⟩ := Owns.cons.mp q
    exact Owns.cons.mpr ⟨v, ws, F1, F2, rfl, rfl, ih1 n v F1 h1, ih2 n ws F2 h2⟩
end
end VL
/-! VLExpr: readings that say what the tree functions give; one rule a construct of an expression. -/
namespace VL
open PySem PySem.Spec L2
abbrev sta (X : Cx) (h : Option (Nat × Addr × Er)) : Sta := ⟨X.K, X.mg, h⟩
/-- the class of such an error, no dict of its own -/
def clsIs (S : Sta) (e : Er) (cls : Value) (d : Option Addr) : Prop := d = none ∧ ∃ C : Addr, cls = .ref C ∧ S.mg e.name = some (.ref C)
def Post {α : Type} (S : Sta) (W : WX) (σ : L2.St) (H : Hp) (r : Res α) (k : α → Prop) : Prop := match r with
  | .ok a => k a
  | .exc e => ∀ (cls : Value) (d : Option Addr) (H' : Hp), clsIs S e cls d → Same H H' → W cls d σ H'
  | .stuck => False
def tE (S : Sta) (W : WX) (Γ : List Nat) (m : M D) (n : Nat) : TE := fun σ H Q => ∃ (H0 G0 Hs : Hp) (F : Nat → List Addr) (η : Env), EOk S H0 G0 H Hs Γ F σ η ∧
  Post S W σ H (m η) fun d => ∀ (v : V) (H' Hs' : Hp) (Fr : List Addr), Step H Hs H' Hs' Fr → Own S H' Hs' d n v Fr → Q v H'
def tA (S : Sta) (W : WX) (Γ : List Nat) (m : M (List D)) : TA := fun σ H Q => ∃ (H0 G0 Hs : Hp) (F : Nat → List Addr) (η : Env), EOk S H0 G0 H Hs Γ F σ η ∧
  Post S W σ H (m η) fun ds => ∀ (vs : List V) (H' Hs' : Hp), Step H Hs H' Hs' [] → Reps S Hs' ds vs → Q vs H'
def tQ (S : Sta) (W : WX) (Γ : List Nat) (m : M Bool) : TT := fun σ H Q => ∃ (H0 G0 Hs : Hp) (F : Nat → List Addr) (η : Env), EOk S H0 G0 H Hs Γ F σ η ∧
  Post S W σ H (m η) fun b => ∀ (H' Hs' : Hp), Step H Hs H' Hs' [] → Q b H'
def tP (S : Sta) (W : WX) (Γ : List Nat) (m : M (Option Int)) : TO := fun σ H Q => ∃ (H0 G0 Hs : Hp) (F : Nat → List Addr) (η : Env), EOk S H0 G0 H Hs Γ F σ η ∧
  Post S W σ H (m η) fun o => ∀ (H' Hs' : Hp), Step H Hs H' Hs' [] → Q o H'
section
variable {S : Sta} {W : WX} {σ : L2.St} {H H1 H0 G0 Hs : Hp} {Γ : List Nat} {F : Nat → List Addr} {η : Env} {α β : Type}
theorem Post.bind {r : Res α} {f : α → Res β} {k : β → Prop} (h : Post S W σ H (r.bind f) k) : Post S W σ H r fun a => Post S W σ H (f a) k := by
  cases r with
  | ok a => exact h
  | exc e => exact h
  | stuck => exact h
theorem Post.imp {r : Res α} {k k' : α → Prop} (h : Post S W σ H r k) (i : ∀ a, k a → k' a) : Post S W σ H r k' := by
  cases r with
  | ok a => exact i a h
  | exc e => exact h
  | stuck => exact h
theorem Post.up {r : Res α} {k : α → Prop} (h : Post S W σ H r k) (s : Same H H1) : Post S W σ H1 r k := by
  cases r with
  | ok a => exact h
  | exc e => exact fun cls d H' c s' => h cls d H' c (s.trans s')
  | stuck => exact h
theorem Own.shared {H' Hs' : Hp} {d : D} {n : Nat} {v : V} {Fr : List Addr} (st : Step H Hs H' Hs' Fr) (h : Own S H' Hs' d n v Fr) : ∃ Hs2, Step H Hs H' Hs2 [] ∧ Rep S Hs2 d v := by
  obtain ⟨Hs2, h1, h2, h3⟩ := st.froz
  exact ⟨Hs2, h1, h.froz h2 d n v Fr h3⟩
theorem Rep.own {H' : Hp} {d : D} {v : V} (h : Rep S Hs d v) : Own S H' Hs d 0 v [] := Own.zero.mpr ⟨rfl, h⟩
theorem Own.scal {H' : Hp} {d : D} {n : Nat} {v : V} (hd : d.isLst = false) (h : Rep S Hs d v) : Own S H' Hs d n v [] := (Own.other hd).mpr ⟨rfl, h⟩
/-- an expression's reading is used: its value, shared -/
theorem tE.use {m : M D} {n : Nat} {Q : VK} (ok : EOk S H0 G0 H Hs Γ F σ η) (p : Post S W σ H (m η) fun d => ∀ (v : V) (H' Hs' : Hp), Step H Hs H' Hs' [] → Rep S Hs' d v → EOk S H0 G0 H' Hs' Γ F σ η → Q v H') : tE S W Γ m n σ H Q :=
  ⟨H0, G0, Hs, F, η, ok, p.imp fun d k v H' Hs' Fr st o => by
    obtain ⟨Hs2, st2, r⟩ := Own.shared st o
    exact k v H' Hs2 st2 r (ok.step st2)⟩
theorem tA.use {m : M (List D)} {Q : List V → Hp → Prop} (ok : EOk S H0 G0 H Hs Γ F σ η) (p : Post S W σ H (m η) fun ds => ∀ (vs : List V) (H' Hs' : Hp), Step H Hs H' Hs' [] → Reps S Hs' ds vs → EOk S H0 G0 H' Hs' Γ F σ η → Q vs H') : tA S W Γ m σ H Q :=
  ⟨H0, G0, Hs, F, η, ok, p.imp fun ds k vs H' Hs' st r => k vs H' Hs' st r (ok.step st)⟩
theorem tQ.use {m : M Bool} {Q : Bool → Hp → Prop} (ok : EOk S H0 G0 H Hs Γ F σ η) (p : Post S W σ H (m η) fun b => ∀ (H' Hs' : Hp), Step H Hs H' Hs' [] → EOk S H0 G0 H' Hs' Γ F σ η → Q b H') : tQ S W Γ m σ H Q :=
  ⟨H0, G0, Hs, F, η, ok, p.imp fun b k H' Hs' st => k H' Hs' st (ok.step st)⟩
theorem tP.use {m : M (Option Int)} {Q : Option Int → Hp → Prop} (ok : EOk S H0 G0 H Hs Γ F σ η) (p : Post S W σ H (m η) fun o => ∀ (H' Hs' : Hp), Step H Hs H' Hs' [] → EOk S H0 G0 H' Hs' Γ F σ η → Q o H') : tP S W Γ m σ H Q :=
  ⟨H0, G0, Hs, F, η, ok, p.imp fun b k H' Hs' st => k H' Hs' st (ok.step st)⟩
end
/-! ### consequence -/
theorem impE {X : Cx} {e : Expr} {t t' : TE} (h : PE X e t) (i : ∀ σ H Q, t' σ H Q → t σ H Q) : PE X e t' := ⟨fun pins s σ H Q I w => h.run pins s σ H Q I (i σ H Q w)⟩
theorem impT {X : Cx} {e : Expr} {t t' : TT} (h : PT X e t) (i : ∀ σ H Q, t' σ H Q → t σ H Q) : PT X e t' := ⟨fun pins s σ H Q I w => h.run pins s σ H Q I (i σ H Q w)⟩
theorem impW {X : Cx} {e : Expr} {t t' : TT} (h : PW X e t) (i : ∀ σ H Q, t' σ H Q → t σ H Q) : PW X e t' := ⟨fun whole pins s σ H Q I w => h.run whole pins s σ H Q I (i σ H Q w)⟩
theorem impA {X : Cx} {es : List Expr} {t t' : TA} (h : PA X es t) (i : ∀ σ H Q, t' σ H Q → t σ H Q) : PA X es t' := ⟨fun pos pins s σ H Q I w => h.run pos pins s σ H Q I (i σ H Q w)⟩
theorem impO {X : Cx} {e : Option Expr} {t t' : TO} (h : PO X e t) (i : ∀ σ H Q, t' σ H Q → t σ H Q) : PO X e t' := ⟨fun pins s σ H Q I w => h.run pins s σ H Q I (i σ H Q w)⟩
theorem impS {X : Cx} {st : Stmt} {t t' : TS} (h : PS X st t) (i : ∀ D σ H, t' D σ H → t D σ H) : PS X st t' := ⟨fun pins s σ H D I w => h.run pins s σ H D I (i D σ H w)⟩
theorem impSs {X : Cx} {st : List Stmt} {t t' : TS} (h : PSs X st t) (i : ∀ D σ H, t' D σ H → t D σ H) : PSs X st t' := ⟨fun pins s σ H D I w => h.run pins s σ H D I (i D σ H w)⟩

/-! ### operators by values -/
/-- the operator r does what f says -/
def OpD (S : Sta) (r : R2) (f : D → D → Res D) (n : Nat) : Prop := ∀ (W : WX) (σ : L2.St) (H Hs : Hp) (a b : D) (x y : V) (Q : VK), Same Hs H → Rep S Hs a x → Rep S Hs b y →
  Post S W σ H (f a b) (fun d => ∀ (v : V) (H' Hs' : Hp) (Fr : List Addr), Step H Hs H' Hs' Fr → Own S H' Hs' d n v Fr → Q v H') → r x y H Q
def UnD (S : Sta) (r : V → Hp → VK → Prop) (f : D → Res D) (n : Nat) : Prop := ∀ (W : WX) (σ : L2.St) (H Hs : Hp) (a : D) (x : V) (Q : VK), Same Hs H → Rep S Hs a x →
  Post S W σ H (f a) (fun d => ∀ (v : V) (H' Hs' : Hp) (Fr : List Addr), Step H Hs H' Hs' Fr → Own S H' Hs' d n v Fr → Q v H') → r x H Q
def CallD (S : Sta) (r : List V → Hp → VK → Prop) (f : List D → Res D) (n : Nat) : Prop := ∀ (W : WX) (σ : L2.St) (H Hs : Hp) (as : List D) (xs : List V) (Q : VK), Same Hs H → Reps S Hs as xs →
  Post S W σ H (f as) (fun d => ∀ (v : V) (H' Hs' : Hp) (Fr : List Addr), Step H Hs H' Hs' Fr → Own S H' Hs' d n v Fr → Q v H') → r xs H Q
section
variable {X : Cx} {W : WX} {Γ : List Nat} {h : Option (Nat × Addr × Er)} {a b c e : Expr} {ma mb mc : M D} {na nb nc n : Nat} {pos : Pos}
theorem rep_int {S : Sta} {H : Hp} {i : Int} : Rep S H (.int i) (.int i) := by unfold Rep; rfl
theorem rep_bl {S : Sta} {H : Hp} {i : Bool} : Rep S H (.bl i) (.bl i) := by unfold Rep; rfl
theorem e_var (i : Nat) {x : Str} (hN : X.N[i]? = some x := by rfl) (hg : Γ.getD i 0 = 0 := by rfl) (hv : Vis X.env.scope x := by first | exact Or.inl rfl | exact Or.inr (Or.inl rfl) | exact Or.inr (Or.inr rfl)) (hd : (x == ("__debug__" : Str)) = false := by decide)
    (hcd : (x == ("__classdict__" : Str)) = false := by decide) : PE X (.Name x pos) (tE (sta X h) W Γ (dVar i) 0) := impE (pe_var hN hv hd hcd) fun σ H Q w => by
  obtain ⟨H0, G0, Hs, F, η, ok, p⟩ := w
  unfold dVar at p
  split at p
  · rename_i d hd
    obtain ⟨v, h1, h2⟩ := ok.slot i d hd
    rw [hg] at h2
    obtain ⟨e1, h3⟩ := Own.zero.mp h2
    exact ⟨v, h1, p v H Hs [] (Step.refl ok.sub) h3.own⟩
  · exact p.elim
/-- a slot that is moved out (return) is not read so -/
theorem e_lit {d : D} {v : V} (hp : PE X e (tC v)) (hs : d.isLst = false) (hr : ∀ (S : Sta) (H : Hp), Rep S H d v) : PE X e (tE (sta X h) W Γ (dLit d) n) := impE hp fun σ H Q w => by
  obtain ⟨H0, G0, Hs, F, η, ok, p⟩ := w
  exact p v H Hs [] (Step.refl ok.sub) (Own.scal hs (hr _ _))
theorem e_int {i : Int} {j} : PE X (.Constant (.int i) j pos) (tE (sta X h) W Γ (dLit (.int i)) n) := e_lit pe_int rfl fun _ _ => by unfold Rep; rfl
theorem e_bl {i : Bool} {j} : PE X (.Constant (.bool i) j pos) (tE (sta X h) W Γ (dLit (.bl i)) n) := e_lit pe_bl rfl fun _ _ => by unfold Rep; rfl
theorem e_non {j} : PE X (.Constant .none j pos) (tE (sta X h) W Γ (dLit .non) n) := e_lit pe_non rfl fun _ _ => by unfold Rep; rfl
theorem e_str {x : Str} {j} : PE X (.Constant (.str x) j pos) (tE (sta X h) W Γ (dLit (.str x)) n) := e_lit pe_str rfl fun _ _ => by unfold Rep; rfl
theorem op2_of {r : R2} {f : D → D → Res D} {S : Sta} {σ : L2.St} {H : Hp} {Q : VK} (hf : OpD S r f n) (w : tE S W Γ (dOp2 f ma mb) n σ H Q) : tOp r (tE S W Γ ma na) (tE S W Γ mb nb) σ H Q := by
  obtain ⟨H0, G0, Hs, F, η, ok, p⟩ := w
  refine tE.use ok ((Post.bind p).imp fun x px v H1 Hs1 st1 r1 ok1 => ?_)
  refine tE.use ok1 (((Post.bind px).up st1.all).imp fun y py u H2 Hs2 st2 r2 ok2 => ?_)
  exact hf W σ H2 Hs2 x y v u Q ok2.sub (r1.same st2.shr) r2 ((py.up (st1.all.trans st2.all)).imp fun d k v' H' Hs' Fr st o => k v' H' Hs' Fr ((st1.trans st2).trans st) o)
theorem e_op2 {op : Operator} {r : R2} {f : D → D → Res D} (ho : OpR X (binaryOp op) r) (hf : OpD (sta X h) r f n) (ha : PE X a (tE (sta X h) W Γ ma na)) (hb : PE X b (tE (sta X h) W Γ mb nb)) :
    PE X (.BinOp a op b pos) (tE (sta X h) W Γ (dOp2 f ma mb) n) := impE (pe_op ho ha hb) fun σ H Q w => op2_of hf w
theorem un_of {r : V → Hp → VK → Prop} {f : D → Res D} {S : Sta} {σ : L2.St} {H : Hp} {Q : VK} (hf : UnD S r f n) (w : tE S W Γ (dOp1 f ma) n σ H Q) : tUn r (tE S W Γ ma na) σ H Q := by
  obtain ⟨H0, G0, Hs, F, η, ok, p⟩ := w
  refine tE.use ok ((Post.bind p).imp fun x px v H1 Hs1 st1 r1 ok1 => ?_)
  exact hf W σ H1 Hs1 x v Q ok1.sub r1 ((px.up st1.all).imp fun d k v' H' Hs' Fr st o => k v' H' Hs' Fr (st1.trans st) o)
theorem e_un {op : UnaryOp} {r : V → Hp → VK → Prop} {f : D → Res D} (ho : UnR X (unaryOp op) r) (hf : UnD (sta X h) r f n) (ha : PE X a (tE (sta X h) W Γ ma na)) : PE X (.UnaryOp op a pos) (tE (sta X h) W Γ (dOp1 f ma) n) := impE (pe_un ho ha) fun σ H Q w => un_of hf w
/-! ints -/
theorem opd_I0 {S : Sta} {g : Int → Int → Int} {f : D → D → Res D} (hf : ∀ a b, (∃ i j, a = .int i ∧ b = .int j ∧ f a b = .ok (.int (g i j))) ∨ f a b = .stuck) : OpD S (rI0 fun i j => .int (g i j)) f n := by
  intro W σ H Hs a b x y Q sub ra rb p
  rcases hf a b with ⟨i, j, rfl, rfl, e⟩ | e
  · unfold Rep at ra rb
    rw [e] at p
    exact ⟨i, j, ra, rb, p _ H Hs [] (Step.refl sub) (Own.scal rfl rep_int)⟩
  · rw [e] at p; exact p.elim
theorem opd_B0 {S : Sta} {g : Int → Int → Bool} : OpD S (rI0 fun i j => .bl (g i j)) (cmpI g) n := by
  intro W σ H Hs a b x y Q sub ra rb p
  unfold cmpI at p
  split at p
  · unfold Rep at ra rb
    exact ⟨_, _, ra, rb, p _ H Hs [] (Step.refl sub) (Own.scal rfl rep_bl)⟩
  · exact p.elim
theorem opd_I {S : Sta} {C : Int → Int → Prop} {g : Int → Int → Int} {f : D → D → Res D} (hf : ∀ a b, (∃ i j, a = .int i ∧ b = .int j ∧ C i j ∧ f a b = .ok (.int (g i j))) ∨ f a b = .stuck) : OpD S (rI C fun i j => .int (g i j)) f n := by
  intro W σ H Hs a b x y Q sub ra rb p
  rcases hf a b with ⟨i, j, rfl, rfl, c, e⟩ | e
  · unfold Rep at ra rb
    rw [e] at p
    exact ⟨i, j, ra, rb, c, p _ H Hs [] (Step.refl sub) (Own.scal rfl rep_int)⟩
  · rw [e] at p; exact p.elim
theorem OpD.or {S : Sta} {r r' : R2} {f : D → D → Res D} {p : D → D → Bool} (h1 : ∀ W σ H Hs a b x y Q, p a b = true → Same Hs H → Rep S Hs a x → Rep S Hs b y → Post S W σ H (f a b) (fun d => ∀ (v : V) (H' Hs' : Hp) (Fr : List Addr), Step H Hs H' Hs' Fr → Own S H' Hs' d n v Fr → Q v H') → r x y H Q)
    (h2 : ∀ W σ H Hs a b x y Q, p a b = false → Same Hs H → Rep S Hs a x → Rep S Hs b y → Post S W σ H (f a b) (fun d => ∀ (v : V) (H' Hs' : Hp) (Fr : List Addr), Step H Hs H' Hs' Fr → Own S H' Hs' d n v Fr → Q v H') → r' x y H Q) : OpD S (fun x y H Q => r x y H Q ∨ r' x y H Q) f n := by
  intro W σ H Hs a b x y Q sub ra rb q
  cases hp : p a b with
  | true => exact .inl (h1 W σ H Hs a b x y Q hp sub ra rb q)
  | false => exact .inr (h2 W σ H Hs a b x y Q hp sub ra rb q)
/-! lists -/
def rCatS : R2 := fun x y H Q => ∃ l b xs zs, x = .ref l ∧ y = .ref b ∧ Rd H l (.lst xs) ∧ Rd H b (.lst zs) ∧ xs.length + zs.length ≤ sizeLine ∧ ∀ p, H p = none → Q (.ref p) (upd H p (.lst (xs ++ zs)))
theorem lstR {pins : List (Addr × Obj)} {σ : L2.St} {H : Hp} {s : Shared} {l : Addr} {xs : List V} (I : Inv X pins σ H s) (hH : Rd H l (.lst xs)) : xs.length ≤ sizeLine ∧ ∃ (its : List Value) (n : Nat), Vals xs its ∧ xs.length = its.length ∧ s.heap.get? l = some { cls := .type "list", data := .seq its.toArray n } := by
  obtain ⟨z, its, n, r, e⟩ := hH.ok I.hok
  exact ⟨z, its, n, r, r.length, e⟩
theorem op_catS : OpR X (binaryOp .Add) rCatS := by
  intro pins s σ H x y v u Q I rx ry h
  obtain ⟨l, b, xs, zs, rfl, rfl, hH, hB, hz, q⟩ := h
  cases rx
  cases ry
  obtain ⟨z, its, n, r, hl, e⟩ := lstR I hH
  obtain ⟨z2, its2, n2, r2, hl2, e2⟩ := lstR I hB
  refine PySem.P.add_list e e2 ?_ (by rw [List.size_toArray, List.size_toArray]; omega)
  have ea : its.toArray ++ its2.toArray = (its ++ its2).toArray := by simp
  rw [ea]
  exact ⟨.ref _, _, I.lnew (t' := s.toks) (r.append r2) (by rw [List.length_append]; omega), rfl, q _ I.fresh⟩
def rRepS : R2 := fun x y H Q => ∃ l k xs, x = .ref l ∧ y = .int k ∧ Rd H l (.lst xs) ∧ -(2 ^ 63) ≤ k ∧ k < 2 ^ 63 ∧ xs.length * k.toNat ≤ sizeLine ∧
  ∀ p, H p = none → Q (.ref p) (upd H p (.lst (List.replicate k.toNat xs).flatten))
theorem op_repS : OpR X (binaryOp .Mult) rRepS := by
  intro pins s σ H x y v u Q I rx ry h
  obtain ⟨l, k, xs, rfl, rfl, hH, h1, h2, hz, q⟩ := h
  cases rx
  obtain ⟨t, rfl⟩ := ry
  obtain ⟨z, its, n, r, hl, e⟩ := lstR I hH
  have hlen : its.toArray.size * k.toNat ≤ sizeLine := by rw [List.size_toArray, ← hl]; exact hz
  have hcap : ¬ its.toArray.size * k.toNat > (2 ^ 63 - 1) / 8 := by
    have : (sizeLine : Nat) ≤ (2 ^ 63 - 1) / 8 := by decide
    omega
  have hfit : ¬ (!Builtin.List.listFitsIndex k) = true := by
    rw [fitsIndex_both h1 h2]
    exact Bool.false_ne_true
  have hlong : ¬ Builtin.List.listTooLong (its.toArray.size * k.toNat) = true := by
    rw [notLongL hlen]
    exact Bool.false_ne_true
  have hnew : List.foldl (fun x1 x2 => x1 ++ x2) #[] (List.replicate (if its.toArray.isEmpty = true then 0 else k.toNat) its.toArray) = (List.replicate k.toNat its).flatten.toArray := by
    have f0 : ∀ m : Nat, List.foldl (fun x1 x2 => x1 ++ x2) #[] (List.replicate m its.toArray) = (List.replicate m its).flatten.toArray := fun m => by
      have := foldl_rep its m []
      rw [List.nil_append] at this
      exact this
    rw [f0]
    cases its with
    | nil => simp
    | cons a r' => rw [if_neg (by simp)]
  refine wpAny_binaryOp_repeat_ref (T := "list") (U := "int") (by decide) ⟨_, e, rfl⟩ (fun s' => typeIs_int s' k t) noFill_list_mul PySem.F.fills_int_mul PySem.F.slot_int_rmul repeat_list PySem.F.slot_int_index.lookup
    (call_meets PySem.F.slot_int_rmul (typeIs_int s k t) PySem.F.entry_int_rmul (PySem.F.args_int_rmul_2 _ _) (int___rmul___int_list k t l its.toArray n)
      ⟨e, rfl, ⟨_, e, rfl⟩, call_meets PySem.F.slot_list_mul ⟨_, e, rfl⟩ PySem.F.entry_list_mul (PySem.F.args_list_mul_2 _ _) (AutoListH.list___mul___list_int_3 l its.toArray n k t hfit hcap hlong) ⟨e, ?_⟩⟩)
  rw [hnew]
  exact ⟨.ref _, _, I.lnew (t' := s.toks) (r.rep k.toNat) (by rw [PyProof.Rows.lm_len_rep_flat, Nat.mul_comm]; exact hz), rfl, q _ I.fresh⟩
theorem line_eq : line = sizeLine := by rw [sizeLine_eq]; rfl
/-- a new list of shared items -/
theorem own_new {S : Sta} {H Hs : Hp} {p : Addr} {ds : List D} {vs : List V} (hp : H p = none) (r : Reps S Hs ds vs) : Own S (upd H p (.lst vs)) Hs (.lst ds) 1 (.ref p) [p] :=
  Own.succ.mpr ⟨p, vs, [], rfl, rfl, upd_same, Owns.of_reps r⟩
theorem rep_newT {S : Sta} {H Hs : Hp} {p : Addr} {ds : List D} {vs : List V} (sub : Same Hs H) (hp : H p = none) (r : Reps S Hs ds vs) : Rep S (upd Hs p (.tup vs)) (.tup ds) (.ref p) := by
  unfold Rep
  refine ⟨p, vs, rfl, SqT.of upd_same, r.same fun b u e => ?_⟩
  rw [upd_ne (ne_of_none (sub b u e) hp)]; exact e
def rAddD (K : PySem.W.Frag) : R2 := fun x y H Q => (rI0 fun i j => .int (i + j)) x y H Q ∨ (rCatS x y H Q ∨ rCatT K x y H Q)
theorem op_addD : OpR X (binaryOp .Add) (rAddD X.K) := op_add.or (op_catS.or op_catT)
theorem od_add : OpD (sta X h) (rAddD X.K) opAdd 1 := by
  intro W σ H Hs a b x y Q sub ra rb p
  unfold opAdd at p
  split at p
  · unfold Rep at ra rb
    exact .inl ⟨_, _, ra, rb, p _ H Hs [] (Step.refl sub) (Own.scal rfl rep_int)⟩
  · rename_i xs ys
    split at p
    · rename_i hl
      unfold Rep at ra rb
      obtain ⟨l, vs, rfl, h1, h2⟩ := ra
      obtain ⟨l2, ws, rfl, h3, h4⟩ := rb
      refine .inr (.inl ⟨l, l2, vs, ws, rfl, rfl, ?_, ?_, by rw [h2.length, h4.length, ← line_eq]; exact hl, fun q hq => p _ _ _ _ (Step.newO sub hq) (own_new hq (h2.append h4))⟩)
      · rcases h1 with e | ⟨o, e⟩
        · exact .inl (sub _ _ e)
        · exact .inr ⟨o, sub _ _ e⟩
      · rcases h3 with e | ⟨o, e⟩
        · exact .inl (sub _ _ e)
        · exact .inr ⟨o, sub _ _ e⟩
    · exact p.elim
  · rename_i xs ys
    split at p
    · rename_i hl
      unfold Rep at ra rb
      obtain ⟨l, vs, rfl, h1, h2⟩ := ra
      obtain ⟨l2, ws, rfl, h3, h4⟩ := rb
      have sqt : ∀ {a : Addr} {us : List V}, SqT X.K Hs a us → SqT X.K H a us := fun hh => by
        rcases hh with (e | ⟨o, e⟩) | e
        · exact .inl (.inl (sub _ _ e))
        · exact .inl (.inr ⟨o, sub _ _ e⟩)
        · exact .inr e
      refine .inr (.inr ⟨l, l2, vs, ws, rfl, rfl, sqt h1, sqt h3, fun e => ?_, by rw [h2.length, h4.length, ← line_eq]; exact hl.2, fun hw => ?_, fun hw q hq => ?_⟩)
      · have z := h2.length
        rw [e] at z
        exact hl.1 (List.length_eq_zero_iff.mp z.symm)
      · have z := h4.length
        rw [hw] at z
        have z' : ys = [] := List.length_eq_zero_iff.mp z.symm
        subst z'
        rw [List.append_nil] at p
        refine p _ H Hs [] (Step.refl sub) (Own.scal rfl ?_)
        unfold Rep
        exact ⟨l, vs, rfl, h1, h2⟩
      · exact p _ _ _ _ (Step.newS sub hq) (Own.scal rfl (rep_newT sub hq (h2.append h4)))
    · exact p.elim
  · exact p.elim
theorem od_sub {S : Sta} : OpD S (rI0 fun i j => .int (i - j)) opSub n := opd_I0 fun a b => by
  cases a <;> cases b <;> first | exact .inl ⟨_, _, rfl, rfl, rfl⟩ | exact .inr rfl
theorem mulOk_x {i j : Int} (q : mulOk i j = true) : CMulX i j := by
  have z := of_decide_eq_true q
  have b : ∀ x : Int, Builtin.Int.intBits x ≤ x.natAbs.log2 + 1 := fun x => by
    unfold Builtin.Int.intBits
    split <;> omega
  have h1 := b i
  have h2 := b j
  unfold CMulX
  omega
def rMulD : R2 := fun x y H Q => (rI CMulX fun i j => .int (i * j)) x y H Q ∨ rRepS x y H Q
theorem op_mulD : OpR X (binaryOp .Mult) rMulD := op_mulX.or op_repS
theorem rd_sub {H Hs : Hp} {a : Addr} {u : HO} (sub : Same Hs H) (r : Rd Hs a u) : Rd H a u := by
  rcases r with e | ⟨o, e⟩
  · exact .inl (sub _ _ e)
  · exact .inr ⟨o, sub _ _ e⟩
theorem sqt_sub {K : PySem.W.Frag} {H Hs : Hp} {a : Addr} {us : List V} (sub : Same Hs H) (hh : SqT K Hs a us) : SqT K H a us := by
  rcases hh with (e | ⟨o, e⟩) | e
  · exact .inl (.inl (sub _ _ e))
  · exact .inl (.inr ⟨o, sub _ _ e⟩)
  · exact .inr e
theorem od_mul {S : Sta} : OpD S rMulD opMul 1 := by
  intro W σ H Hs a b x y Q sub ra rb p
  unfold opMul at p
  split at p
  · split at p
    · rename_i hm
      unfold Rep at ra rb
      exact .inl ⟨_, _, ra, rb, mulOk_x hm, p _ H Hs [] (Step.refl sub) (Own.scal rfl rep_int)⟩
    · exact p.elim
  · split at p
    · rename_i hl
      unfold Rep at ra rb
      obtain ⟨l, vs, rfl, h1, h2⟩ := ra
      obtain ⟨l1, l2, l3⟩ := hl
      refine .inr ⟨l, _, vs, rfl, rb, rd_sub sub h1, by omega, by omega, by rw [h2.length, ← line_eq]; exact l3, fun q hq => p _ _ _ _ (Step.newO sub hq) (own_new hq (h2.rep _))⟩
    · exact p.elim
  · exact p.elim
def CDivL (i j : Int) : Prop := divOk i j = true
theorem op_fdivL : OpR X (binaryOp .FloorDiv) (rI CDivL fun i j => .int (i / j)) := opI fun i j _ _ _ _ _ hc q => by
  have hc' : (decide (0 < j) && (decide (j.natAbs.log2 < 9000) || decide (i.natAbs.log2 ≤ j.natAbs.log2 + 4000))) = true := hc
  simp only [Bool.and_eq_true, Bool.or_eq_true, decide_eq_true_eq] at hc'
  obtain ⟨h1, h2⟩ := hc'
  refine PyProof.Rows.floordiv_int (by omega) (by rw [Int.fdiv_eq_ediv_of_nonneg i (by omega)]; exact q) (.inl ?_)
  rcases h2 with h2 | h2
  · exact PyProof.noPylong_of_log2 h2
  · have hj : (j == 0) = false := by simpa using (show j ≠ 0 by omega)
    show (decide ((if j == 0 then 0 else j.natAbs.log2 / 30 + 1) > 300) && decide ((if i == 0 then 0 else i.natAbs.log2 / 30 + 1) > (if j == 0 then 0 else j.natAbs.log2 / 30 + 1) + 150)) = false
    rw [hj]
    have k : ¬ ((if i == 0 then 0 else i.natAbs.log2 / 30 + 1) > (if false = true then 0 else j.natAbs.log2 / 30 + 1) + 150) := by
      rw [if_neg Bool.false_ne_true]
      split <;> omega
    rw [decide_eq_false k, Bool.and_false]
theorem od_div {S : Sta} : OpD S (rI CDivL fun i j => .int (i / j)) opDiv n := opd_I fun a b => by
  cases a <;> cases b <;> first | exact .inr rfl | skip
  rename_i i j
  by_cases e : divOk i j = true
  · exact .inl ⟨_, _, rfl, rfl, e, by unfold opDiv; exact if_pos e⟩
  · exact .inr (by unfold opDiv; exact if_neg e)
theorem od_mod {S : Sta} : OpD S (rI (fun _ j => 0 < j) fun i j => .int (i % j)) opMod n := opd_I fun a b => by
  cases a <;> cases b <;> first | exact .inr rfl | skip
  rename_i i j
  by_cases e : 0 < j
  · exact .inl ⟨_, _, rfl, rfl, e, by unfold opMod; exact if_pos e⟩
  · exact .inr (by unfold opMod; exact if_neg e)
theorem od_pow {S : Sta} : OpD S (rI CPow fun i j => .int (i ^ j.toNat)) opPow n := opd_I fun a b => by
  cases a <;> cases b <;> first | exact .inr rfl | skip
  rename_i i j
  by_cases e : powOk i j = true
  · refine .inl ⟨_, _, rfl, rfl, ?_, by unfold opPow; exact if_pos e⟩
    unfold powOk at e
    simp only [Bool.and_eq_true, decide_eq_true_eq] at e
    exact e
  · exact .inr (by unfold opPow; exact if_neg e)
theorem od_shl {S : Sta} : OpD S (rI CShl fun i j => .int (i * 2 ^ j.toNat)) opShl n := opd_I fun a b => by
  cases a <;> cases b <;> first | exact .inr rfl | skip
  rename_i i j
  by_cases e : shlOk i j = true
  · refine .inl ⟨_, _, rfl, rfl, ?_, by unfold opShl; exact if_pos e⟩
    unfold shlOk at e
    simp only [Bool.and_eq_true, decide_eq_true_eq] at e
    have b : Builtin.Int.intBits i ≤ i.natAbs.log2 + 1 := by
      unfold Builtin.Int.intBits
      split <;> omega
    have e2 : (2 : Int) ^ 27 = 134217728 := by decide
    exact ⟨e.1, by rw [e2]; omega⟩
  · exact .inr (by unfold opShl; exact if_neg e)
theorem od_shr {S : Sta} : OpD S (rI (fun _ j => 0 ≤ j) fun i j => .int (i / 2 ^ j.toNat)) opShr n := opd_I fun a b => by
  cases a <;> cases b <;> first | exact .inr rfl | skip
  rename_i i j
  by_cases e : 0 ≤ j
  · exact .inl ⟨_, _, rfl, rfl, e, by unfold opShr; exact if_pos e⟩
  · exact .inr (by unfold opShr; exact if_neg e)
theorem od_and {S : Sta} : OpD S (rI0 fun i j => .int (Builtin.bitAnd i j)) opAnd n := opd_I0 fun a b => by
  cases a <;> cases b <;> first | exact .inl ⟨_, _, rfl, rfl, rfl⟩ | exact .inr rfl
theorem od_or {S : Sta} : OpD S (rI0 fun i j => .int (Builtin.bitOr i j)) opOr n := opd_I0 fun a b => by
  cases a <;> cases b <;> first | exact .inl ⟨_, _, rfl, rfl, rfl⟩ | exact .inr rfl
theorem od_xor {S : Sta} : OpD S (rI0 fun i j => .int (Builtin.bitXor i j)) opXor n := opd_I0 fun a b => by
  cases a <;> cases b <;> first | exact .inl ⟨_, _, rfl, rfl, rfl⟩ | exact .inr rfl
theorem und_I {S : Sta} {g : Int → Int} {f : D → Res D} (hf : ∀ a, (∃ i, a = .int i ∧ f a = .ok (.int (g i))) ∨ f a = .stuck) : UnD S (rU fun i => .int (g i)) f n := by
  intro W σ H Hs a x Q sub ra p
  rcases hf a with ⟨i, rfl, e⟩ | e
  · unfold Rep at ra
    rw [e] at p
    exact ⟨i, ra, p _ H Hs [] (Step.refl sub) (Own.scal rfl rep_int)⟩
  · rw [e] at p; exact p.elim
theorem ud_neg {S : Sta} : UnD S (rU fun i => .int (-i)) opNeg n := und_I fun a => by
  cases a <;> first | exact .inl ⟨_, rfl, rfl⟩ | exact .inr rfl
theorem ud_inv {S : Sta} : UnD S (rU fun i => .int (Builtin.bitNot i)) opInv n := und_I fun a => by
  cases a <;> first | exact .inl ⟨_, rfl, rfl⟩ | exact .inr rfl
end
end VL
/-! VLExpr2: comparisons, tests, displays, calls, items, slices, built-in functions. -/
namespace VL
open PySem PySem.Spec L2
section
variable {X : Cx} {W : WX} {Γ : List Nat} {h : Option (Nat × Addr × Er)} {a b c e : Expr} {es rest : List Expr} {ma mb mc : M D} {mas : M (List D)} {qa qb : M Bool} {na nb nc n k : Nat} {pos : Pos} {op op' : CmpOp} {r r' : R2} {f g : D → D → Res D} {t : TE}
/-! ### comparisons -/
theorem e_cmp (ho : OpR X (compareOp op) r) (hf : OpD (sta X h) r f n) (ha : PE X a (tE (sta X h) W Γ ma na)) (hb : PE X b (tE (sta X h) W Γ mb nb)) (hm : behindInMarks op b = false) :
    PE X (.Compare a [op] [b] pos) (tE (sta X h) W Γ (dOp2 f ma mb) n) := impE (pe_cmpR ho ha hb hm) fun σ H Q w => op2_of hf w
/-- a test of a value that is a bool -/
theorem test_of {S : Sta} {σ : L2.St} {H : Hp} {Q : Bool → Hp → Prop} {m : M D} (hi : ∀ Q, tE S W Γ m n σ H Q → t σ H Q) (w : tQ S W Γ (qB m) σ H Q) : tTest t σ H Q := by
  obtain ⟨H0, G0, Hs, F, η, ok, p⟩ := w
  refine hi _ (tE.use ok ((Post.bind p).imp fun d pd v H' Hs' st rd ok' => ?_))
  unfold toB at pd
  split at pd
  · rename_i b
    unfold Rep at rd
    exact ⟨b, rd, pd H' Hs' st⟩
  · exact pd.elim
theorem q_cmp (ho : OpR X (compareOp op) r) (hf : OpD (sta X h) r f 0) (ha : PE X a (tE (sta X h) W Γ ma na)) (hb : PE X b (tE (sta X h) W Γ mb nb)) (hm : behindInMarks op b = false) :
    PT X (.Compare a [op] [b] pos) (tQ (sta X h) W Γ (qB (dOp2 f ma mb))) := impT (pt_cmpR ho ha hb hm) fun σ H Q w => test_of (fun Q w => op2_of hf w) w
theorem chain_of {S : Sta} {σ : L2.St} {H : Hp} {Q : VK} (hf : OpD S r f 0) (hg : OpD S r' g n) (w : tE S W Γ (dChain f g ma mb mc) n σ H Q) : tChain r r' (tE S W Γ ma na) (tE S W Γ mb nb) (tE S W Γ mc nc) σ H Q := by
  obtain ⟨H0, G0, Hs, F, η, ok, p⟩ := w
  refine tE.use ok ((Post.bind p).imp fun x px v H1 Hs1 st1 r1 ok1 => ?_)
  refine tE.use ok1 (((Post.bind px).up st1.all).imp fun y py u H2 Hs2 st2 r2 ok2 => ?_)
  refine hf W σ H2 Hs2 x y v u _ ok2.sub (r1.same st2.shr) r2 (((Post.bind py).up (st1.all.trans st2.all)).imp fun d pd v' H3 Hs3 Fr st o => ?_)
  have pb := Post.bind pd
  obtain ⟨e0, rd⟩ := Own.zero.mp o
  unfold toB at pb
  split at pb
  · rename_i bb
    unfold Rep at rd
    refine ⟨bb, rd, ?_⟩
    have st3 : Step H Hs H3 Hs3 Fr := (st1.trans st2).trans st
    cases bb with
    | true =>
      have pb' : Post S W σ H ((mc η).bind fun z => g y z) _ := pb
      rw [if_pos rfl]
      refine tE.use (ok2.step st) (((Post.bind pb').up st3.all).imp fun z pz w' H4 Hs4 st4 r4 ok4 => ?_)
      exact hg W σ H4 Hs4 y z u w' Q ok4.sub (r2.same (st.shr.trans st4.shr)) r4 ((pz.up (st3.all.trans st4.all)).imp fun d k v5 H5 Hs5 Fr5 st5 o5 => k v5 H5 Hs5 Fr5 ((st3.drop.trans st4).trans st5) o5)
    | false =>
      rw [if_neg Bool.false_ne_true]
      have pb' : ∀ (v : V) (H' Hs' : Hp) (Fr : List Addr), Step H Hs H' Hs' Fr → Own S H' Hs' (.bl false) n v Fr → Q v H' := pb
      exact pb' _ _ _ _ st3.drop (Own.scal rfl rep_bl)
  · exact pb.elim
theorem e_chain (ho : OpR X (compareOp op) r) (ho' : OpR X (compareOp op') r') (hf : OpD (sta X h) r f 0) (hg : OpD (sta X h) r' g n) (ha : PE X a (tE (sta X h) W Γ ma na)) (hb : PE X b (tE (sta X h) W Γ mb nb)) (hc : PE X c (tE (sta X h) W Γ mc nc))
    (hm : lastMarks [op, op'] [b, c] = false := by with_unfolding_all rfl) : PE X (.Compare a [op, op'] [b, c] pos) (tE (sta X h) W Γ (dChain f g ma mb mc) n) := impE (pe_chain ho ho' ha hb hc hm) fun σ H Q w => chain_of hf hg w
theorem q_chain (ho : OpR X (compareOp op) r) (ho' : OpR X (compareOp op') r') (hf : OpD (sta X h) r f 0) (hg : OpD (sta X h) r' g 0) (ha : PE X a (tE (sta X h) W Γ ma na)) (hb : PE X b (tE (sta X h) W Γ mb nb)) (hc : PE X c (tE (sta X h) W Γ mc nc))
    (hm : lastMarks [op, op'] [b, c] = false := by with_unfolding_all rfl) : PT X (.Compare a [op, op'] [b, c] pos) (tQ (sta X h) W Γ (qB (dChain f g ma mb mc))) := impT (pt_chain ho ho' ha hb hc hm) fun σ H Q w => test_of (fun Q w => chain_of hf hg w) w
theorem ob_eq : OpD (sta X h) (rEqD X.K) opEq n :=by
  intro W σ H Hs a b x y Q sub ra rb p
  unfold opEq at p
  split at p
  · rename_i q
    rw [Bool.and_eq_true] at q
    obtain ⟨q1, q2⟩ := q
    unfold D.eqOk at q1 q2
    rw [Bool.and_eq_true] at q1 q2
    exact ⟨_, _, Rep.dp a x q1.1 (ra.same sub), Rep.dp b y q2.1 (rb.same sub), q1.2, q2.2, p _ H Hs [] (Step.refl sub) (Own.scal rfl rep_bl)⟩
  · exact p.elim
theorem od_eq (hu : X.A.units + 64 < cLine) : OpR X (compareOp .Eq) (rEqD X.K) ∧ OpD (sta X h) (rEqD X.K) opEq n := ⟨op_eqD hu, ob_eq⟩
theorem ob_ne : OpD (sta X h) (rNeD X.K) opNe n :=by
  intro W σ H Hs a b x y Q sub ra rb p
  unfold opNe at p
  split at p
  · rename_i q
    rw [Bool.and_eq_true] at q
    obtain ⟨q1, q2⟩ := q
    unfold D.eqOk at q1 q2
    rw [Bool.and_eq_true] at q1 q2
    exact ⟨_, _, Rep.dp a x q1.1 (ra.same sub), Rep.dp b y q2.1 (rb.same sub), q1.2, q2.2, p _ H Hs [] (Step.refl sub) (Own.scal rfl rep_bl)⟩
  · exact p.elim
theorem od_ne (hu : X.A.units + 64 < cLine) : OpR X (compareOp .NotEq) (rNeD X.K) ∧ OpD (sta X h) (rNeD X.K) opNe n := ⟨op_neD hu, ob_ne⟩
theorem od_isB {S : Sta} : OpD S rIsB opIsB n := by
  intro W σ H Hs a b x y Q sub ra rb p
  unfold opIsB at p
  split at p
  · unfold Rep at ra rb
    exact ⟨_, _, ra, rb, p _ H Hs [] (Step.refl sub) (Own.scal rfl rep_bl)⟩
  · exact p.elim
theorem od_notB {S : Sta} : OpD S rNotB opIsNotB n := by
  intro W σ H Hs a b x y Q sub ra rb p
  unfold opIsNotB at p
  split at p
  · unfold Rep at ra rb
    exact ⟨_, _, ra, rb, p _ H Hs [] (Step.refl sub) (Own.scal rfl rep_bl)⟩
  · exact p.elim
theorem rep_non {S : Sta} {H : Hp} {d : D} {v : V} (r : Rep S H d v) : decide (v = .non) = d.isNon := by
  cases d <;> (unfold Rep at r) <;> first
    | (rw [r]; rfl)
    | (obtain ⟨_, _, r, _⟩ := r; rw [r]; rfl)
    | (obtain ⟨_, _, _, _, r, _⟩ := r; rw [r]; rfl)
    | (obtain ⟨_, r, _⟩ := r; rw [r]; rfl)
theorem e_isNone {j pos'} (ha : PE X a (tE (sta X h) W Γ ma na)) : PE X (.Compare a [.Is] [.Constant .none j pos'] pos) (tE (sta X h) W Γ (dOp1 opIsNone ma) n) := impE (pe_cmp (pc_isN ha)) fun σ H Q w => by
  obtain ⟨H0, G0, Hs, F, η, ok, p⟩ := w
  refine tE.use ok ((Post.bind p).imp fun d pd v H' Hs' st rd ok' => ?_)
  rw [rep_non rd]
  exact pd _ H' Hs' [] st (Own.scal rfl rep_bl)
theorem e_notNone {j pos'} (ha : PE X a (tE (sta X h) W Γ ma na)) : PE X (.Compare a [.IsNot] [.Constant .none j pos'] pos) (tE (sta X h) W Γ (dOp1 opNotNone ma) n) := impE (pe_cmp (pc_notN ha)) fun σ H Q w => by
  obtain ⟨H0, G0, Hs, F, η, ok, p⟩ := w
  refine tE.use ok ((Post.bind p).imp fun d pd v H' Hs' st rd ok' => ?_)
  rw [rep_non rd]
  exact pd _ H' Hs' [] st (Own.scal rfl rep_bl)
theorem q_isNone {j pos'} (ha : PE X a (tE (sta X h) W Γ ma na)) : PT X (.Compare a [.Is] [.Constant .none j pos'] pos) (tQ (sta X h) W Γ (qB (dOp1 opIsNone ma))) := impT (pt_cmp (pc_isN ha)) fun σ H Q w => by
  obtain ⟨H0, G0, Hs, F, η, ok, p⟩ := w
  refine tE.use ok ((Post.bind (Post.bind p)).imp fun d pd v H' Hs' st rd ok' => ?_)
  rw [rep_non rd]
  exact ⟨_, rfl, pd H' Hs' st⟩
theorem q_notNone {j pos'} (ha : PE X a (tE (sta X h) W Γ ma na)) : PT X (.Compare a [.IsNot] [.Constant .none j pos'] pos) (tQ (sta X h) W Γ (qB (dOp1 opNotNone ma))) := impT (pt_cmp (pc_notN ha)) fun σ H Q w => by
  obtain ⟨H0, G0, Hs, F, η, ok, p⟩ := w
  refine tE.use ok ((Post.bind (Post.bind p)).imp fun d pd v H' Hs' st rd ok' => ?_)
  rw [rep_non rd]
  exact ⟨_, rfl, pd H' Hs' st⟩
/-! x in a list of plain data -/
theorem ob_in : OpD (sta X h) (rInD X.K) opIn n :=by
  intro W σ H Hs a b x y Q sub ra rb p
  unfold opIn at p
  split at p
  · rename_i ys
    split at p
    · rename_i q
      rw [Bool.and_eq_true] at q
      obtain ⟨q1, q2⟩ := q
      unfold D.eqOk at q1 q2
      rw [Bool.and_eq_true] at q1 q2
      refine ⟨a.toPD, D.toPDs ys, Rep.dp _ x q1.1 (ra.same sub), ?_, q1.2, ?_, ?_⟩
      · have z := Rep.dp _ y q2.1 (rb.same sub)
        unfold D.toPD at z
        exact z
      · have z := q2.2
        unfold D.toPD at z
        exact z
      · have e : ((D.toPDs ys).any fun z => PyData.eqv z (D.toPD a)) = ys.any fun y => D.eqv y a := by
          clear p q1 q2 rb
          induction ys with
          | nil => unfold D.toPDs; rfl
          | cons d ds ih => unfold D.toPDs; rw [List.any_cons, List.any_cons, ih]; rfl
        rw [e]
        exact p _ H Hs [] (Step.refl sub) (Own.scal rfl rep_bl)
    · exact p.elim
  · exact p.elim
theorem od_in (hu : X.A.units + 65 < cLine) : OpR X (compareOp .In) (rInD X.K) ∧ OpD (sta X h) (rInD X.K) opIn n := ⟨op_inD hu, ob_in⟩
theorem ob_notIn : OpD (sta X h) (rNotInD X.K) opNotIn n :=by
  intro W σ H Hs a b x y Q sub ra rb p
  unfold opNotIn at p
  split at p
  · rename_i ys
    split at p
    · rename_i q
      rw [Bool.and_eq_true] at q
      obtain ⟨q1, q2⟩ := q
      unfold D.eqOk at q1 q2
      rw [Bool.and_eq_true] at q1 q2
      refine ⟨a.toPD, D.toPDs ys, Rep.dp _ x q1.1 (ra.same sub), ?_, q1.2, ?_, ?_⟩
      · have z := Rep.dp _ y q2.1 (rb.same sub)
        unfold D.toPD at z
        exact z
      · have z := q2.2
        unfold D.toPD at z
        exact z
      · have e : ((D.toPDs ys).any fun z => PyData.eqv z (D.toPD a)) = ys.any fun y => D.eqv y a := by
          clear p q1 q2 rb
          induction ys with
          | nil => unfold D.toPDs; rfl
          | cons d ds ih => unfold D.toPDs; rw [List.any_cons, List.any_cons, ih]; rfl
        rw [e]
        exact p _ H Hs [] (Step.refl sub) (Own.scal rfl rep_bl)
    · exact p.elim
  · exact p.elim
theorem od_notIn (hu : X.A.units + 65 < cLine) : OpR X (compareOp .NotIn) (rNotInD X.K) ∧ OpD (sta X h) (rNotInD X.K) opNotIn n := ⟨op_notInD hu, ob_notIn⟩
/-! ### and, or, not, if -/
theorem e_one {o : BoolOp} (ha : PE X a t) : PE X (.BoolOp o [a] pos) t := pe_one ha
theorem e_and (ha : PE X a (tE (sta X h) W Γ ma na)) (hb : PE X (.BoolOp .And (b :: rest) pos) (tE (sta X h) W Γ mb n)) : PE X (.BoolOp .And (a :: b :: rest) pos) (tE (sta X h) W Γ (dAnd ma mb) n) := impE (pe_and ha hb) fun σ H Q w => by
  obtain ⟨H0, G0, Hs, F, η, ok, p⟩ := w
  refine tE.use ok ((Post.bind p).imp fun d pd v H' Hs' st rd ok' => ?_)
  have pb := Post.bind pd
  unfold toB at pb
  split at pb
  · rename_i bb
    unfold Rep at rd
    refine ⟨bb, rd, ?_⟩
    cases bb with
    | true =>
      rw [if_pos rfl]
      have pb' : Post (sta X h) W σ H (mb η) _ := pb
      exact ⟨H0, G0, Hs', F, η, ok', (pb'.up st.all).imp fun d k v2 H2 Hs2 Fr st2 o2 => k v2 H2 Hs2 Fr (st.trans st2) o2⟩
    | false =>
      rw [if_neg Bool.false_ne_true]
      have pb' : ∀ (v : V) (H' Hs' : Hp) (Fr : List Addr), Step H Hs H' Hs' Fr → Own (sta X h) H' Hs' (.bl false) n v Fr → Q v H' := pb
      exact pb' _ _ _ _ st (Own.scal rfl rep_bl)
  · exact pb.elim
theorem e_or (ha : PE X a (tE (sta X h) W Γ ma na)) (hb : PE X (.BoolOp .Or (b :: rest) pos) (tE (sta X h) W Γ mb n)) : PE X (.BoolOp .Or (a :: b :: rest) pos) (tE (sta X h) W Γ (dOr ma mb) n) := impE (pe_or ha hb) fun σ H Q w => by
  obtain ⟨H0, G0, Hs, F, η, ok, p⟩ := w
  refine tE.use ok ((Post.bind p).imp fun d pd v H' Hs' st rd ok' => ?_)
  have pb := Post.bind pd
  unfold toB at pb
  split at pb
  · rename_i bb
    unfold Rep at rd
    refine ⟨bb, rd, ?_⟩
    cases bb with
    | true =>
      rw [if_pos rfl]
      have pb' : ∀ (v : V) (H' Hs' : Hp) (Fr : List Addr), Step H Hs H' Hs' Fr → Own (sta X h) H' Hs' (.bl true) n v Fr → Q v H' := pb
      exact pb' _ _ _ _ st (Own.scal rfl rep_bl)
    | false =>
      rw [if_neg Bool.false_ne_true]
      have pb' : Post (sta X h) W σ H (mb η) _ := pb
      exact ⟨H0, G0, Hs', F, η, ok', (pb'.up st.all).imp fun d k v2 H2 Hs2 Fr st2 o2 => k v2 H2 Hs2 Fr (st.trans st2) o2⟩
  · exact pb.elim
theorem e_not (ha : PE X a (tE (sta X h) W Γ ma na)) : PE X (.UnaryOp .Not a pos) (tE (sta X h) W Γ (dNot ma) n) := impE (pe_not ha) fun σ H Q w => by
  obtain ⟨H0, G0, Hs, F, η, ok, p⟩ := w
  refine tE.use ok ((Post.bind p).imp fun d pd v H' Hs' st rd ok' => ?_)
  have pb := Post.bind pd
  unfold toB at pb
  split at pb
  · rename_i bb
    unfold Rep at rd
    exact ⟨bb, rd, pb _ _ _ _ st (Own.scal rfl rep_bl)⟩
  · exact pb.elim
/-- a test by the value's truth -/
theorem q_tru (ha : PE X a (tE (sta X h) W Γ ma na)) (he : ∀ whole, isTrue a X.env whole = (do let v ← whole; standAt a.pos; holding [v] (truthy v)) := by intro _; rfl) : PT X a (tQ (sta X h) W Γ (qTru ma)) := impT (pt_truth ha he) fun σ H Q w => by
  obtain ⟨H0, G0, Hs, F, η, ok, p⟩ := w
  refine tE.use ok ((Post.bind p).imp fun d pd v H' Hs' st rd ok' => ?_)
  unfold D.truth at pd
  cases d <;> first | exact pd.elim | skip
  · unfold Rep at rd
    exact ⟨false, by rw [rd]; exact rfl, pd H' Hs' st⟩
  · unfold Rep at rd
    exact ⟨_, by rw [rd]; exact rfl, pd H' Hs' st⟩
  · unfold Rep at rd
    exact ⟨_, by rw [rd]; exact rfl, pd H' Hs' st⟩
  · rename_i xs
    unfold Rep at rd
    obtain ⟨l, vs, rfl, r1, r2⟩ := rd
    have e : vs.isEmpty = xs.isEmpty := by
      have z := r2.length
      cases vs <;> cases xs <;> first | rfl | simp at z
    exact ⟨_, Or.inl ⟨vs, Or.inl (rd_sub ok'.sub r1), by rw [e]⟩, pd H' Hs' st⟩
  · rename_i xs
    unfold Rep at rd
    obtain ⟨l, vs, rfl, r1, r2⟩ := rd
    have e : vs.isEmpty = xs.isEmpty := by
      have z := r2.length
      cases vs <;> cases xs <;> first | rfl | simp at z
    exact ⟨_, Or.inr (Or.inl ⟨vs, sqt_sub ok'.sub r1, by rw [e]⟩), pd H' Hs' st⟩
theorem w_and1 (ha : PT X a (tQ (sta X h) W Γ qa)) : PW X (.BoolOp .And [a] pos) (tQ (sta X h) W Γ qa) := pw_and1 ha
theorem w_or1 (ha : PT X a (tQ (sta X h) W Γ qa)) : PW X (.BoolOp .Or [a] pos) (tQ (sta X h) W Γ qa) := pw_or1 ha
theorem w_and (ha : PT X a (tQ (sta X h) W Γ qa)) (hb : PW X (.BoolOp .And (b :: rest) pos) (tQ (sta X h) W Γ qb)) : PW X (.BoolOp .And (a :: b :: rest) pos) (tQ (sta X h) W Γ (qAnd qa qb)) := impW (pw_and ha hb) fun σ H Q w => by
  obtain ⟨H0, G0, Hs, F, η, ok, p⟩ := w
  refine tQ.use ok ((Post.bind p).imp fun b pb H' Hs' st ok' => ?_)
  cases b with
  | true =>
    rw [if_pos rfl]
    have pb' : Post (sta X h) W σ H (qb η) _ := pb
    exact ⟨H0, G0, Hs', F, η, ok', (pb'.up st.all).imp fun b k H2 Hs2 st2 => k H2 Hs2 (st.trans st2)⟩
  | false =>
    rw [if_neg Bool.false_ne_true]
    have pb' : ∀ (H' Hs' : Hp), Step H Hs H' Hs' [] → Q false H' := pb
    exact pb' _ _ st
theorem w_or (ha : PT X a (tQ (sta X h) W Γ qa)) (hb : PW X (.BoolOp .Or (b :: rest) pos) (tQ (sta X h) W Γ qb)) : PW X (.BoolOp .Or (a :: b :: rest) pos) (tQ (sta X h) W Γ (qOr qa qb)) := impW (pw_or ha hb) fun σ H Q w => by
  obtain ⟨H0, G0, Hs, F, η, ok, p⟩ := w
  refine tQ.use ok ((Post.bind p).imp fun b pb H' Hs' st ok' => ?_)
  cases b with
  | true =>
    rw [if_pos rfl]
    have pb' : ∀ (H' Hs' : Hp), Step H Hs H' Hs' [] → Q true H' := pb
    exact pb' _ _ st
  | false =>
    rw [if_neg Bool.false_ne_true]
    have pb' : Post (sta X h) W σ H (qb η) _ := pb
    exact ⟨H0, G0, Hs', F, η, ok', (pb'.up st.all).imp fun b k H2 Hs2 st2 => k H2 Hs2 (st.trans st2)⟩
theorem q_w (ha : PW X a (tQ (sta X h) W Γ qa)) : PT X a (tQ (sta X h) W Γ qa) := ha.pt
theorem q_not (ha : PT X a (tQ (sta X h) W Γ qa)) : PT X (.UnaryOp .Not a pos) (tQ (sta X h) W Γ (qNot qa)) := impT (pt_not ha) fun σ H Q w => by
  obtain ⟨H0, G0, Hs, F, η, ok, p⟩ := w
  exact tQ.use ok ((Post.bind p).imp fun b pb H' Hs' st ok' => pb H' Hs' st)
theorem e_if (hc : PT X c (tQ (sta X h) W Γ qa)) (ha : PE X a (tE (sta X h) W Γ ma n)) (hb : PE X b (tE (sta X h) W Γ mb n)) : PE X (.IfExp c a b pos) (tE (sta X h) W Γ (dIf qa ma mb) n) := impE (pe_ifExp hc ha hb) fun σ H Q w => by
  obtain ⟨H0, G0, Hs, F, η, ok, p⟩ := w
  refine tQ.use ok ((Post.bind p).imp fun b pb H' Hs' st ok' => ?_)
  cases b with
  | true =>
    rw [if_pos rfl]
    have pb' : Post (sta X h) W σ H (ma η) _ := pb
    exact ⟨H0, G0, Hs', F, η, ok', (pb'.up st.all).imp fun d k v2 H2 Hs2 Fr st2 o2 => k v2 H2 Hs2 Fr (st.trans st2) o2⟩
  | false =>
    rw [if_neg Bool.false_ne_true]
    have pb' : Post (sta X h) W σ H (mb η) _ := pb
    exact ⟨H0, G0, Hs', F, η, ok', (pb'.up st.all).imp fun d k v2 H2 Hs2 Fr st2 o2 => k v2 H2 Hs2 Fr (st.trans st2) o2⟩
/-! ### arguments, displays -/
theorem a_nil : PA X [] (tA (sta X h) W Γ aNil) := impA pa_nil fun σ H Q w => by
  obtain ⟨H0, G0, Hs, F, η, ok, p⟩ := w
  exact p [] H Hs (Step.refl ok.sub) (Reps.nil_iff.mpr rfl)
theorem a_cons (ha : PE X e (tE (sta X h) W Γ ma na)) (hr : PA X es (tA (sta X h) W Γ mas)) (hs : starEach (e :: es) X.env = (false, eval e X.env) :: starEach es X.env := by rfl) : PA X (e :: es) (tA (sta X h) W Γ (aCons ma mas)) := impA (pa_cons ha hr hs) fun σ H Q w => by
  obtain ⟨H0, G0, Hs, F, η, ok, p⟩ := w
  refine tE.use ok ((Post.bind p).imp fun d pd v H1 Hs1 st1 r1 ok1 => ?_)
  refine tA.use ok1 (((Post.bind pd).up st1.all).imp fun ds pds vs H2 Hs2 st2 r2 ok2 => ?_)
  exact pds (v :: vs) H2 Hs2 (st1.trans st2) (Reps.cons_iff.mpr ⟨v, vs, rfl, r1.same st2.shr, r2⟩)
theorem e_tup {x1} (ha : PA X es (tA (sta X h) W Γ mas)) : PE X (.Tuple es x1 pos) (tE (sta X h) W Γ (dTup mas) n) := impE (pe_tup ha) fun σ H Q w => by
  obtain ⟨H0, G0, Hs, F, η, ok, p⟩ := w
  refine tA.use ok ((Post.bind p).imp fun ds pd vs H1 Hs1 st1 r1 ok1 => ?_)
  split at pd
  · rename_i hl
    exact ⟨by rw [r1.length, ← line_eq]; exact hl, fun q hq => pd _ _ _ [] (st1.trans (Step.newS ok1.sub hq)) (Own.scal rfl (rep_newT ok1.sub hq r1))⟩
  · exact pd.elim
theorem e_lst (ha : PA X es (tA (sta X h) W Γ mas)) : PE X (.List es pos) (tE (sta X h) W Γ (dLst mas) 1) := impE (pe_lst ha) fun σ H Q w => by
  obtain ⟨H0, G0, Hs, F, η, ok, p⟩ := w
  refine tA.use ok ((Post.bind p).imp fun ds pd vs H1 Hs1 st1 r1 ok1 => ?_)
  split at pd
  · rename_i hl
    exact ⟨by rw [r1.length, ← line_eq]; exact hl, fun q hq => pd _ _ _ _ (st1.trans (Step.newO ok1.sub hq)) (own_new hq r1)⟩
  · exact pd.elim
/-- a fresh value is shared -/
theorem e_fz (ha : PE X e (tE (sta X h) W Γ ma na)) : PE X e (tE (sta X h) W Γ ma 0) := impE ha fun σ H Q w => by
  obtain ⟨H0, G0, Hs, F, η, ok, p⟩ := w
  exact tE.use ok (p.imp fun d k v H' Hs' st r _ => k v H' Hs' [] st r.own)
/-! ### built-in functions -/
theorem e_blt {x : Str} {id : String} {f : List D → Res D} {r : List V → Hp → VK → Prop} {p : Pos} (hc : CallR X (.builtin id) r) (hf : CallD (sta X h) r f n) (hg : Gl X x) (hm : X.mg x = none) (hv : bootBuiltins x = some (.builtin id)) (ha : PA X (e :: es) (tA (sta X h) W Γ mas))
    (hn : x ≠ "__name__" := by decide) (hdb : (x == ("__debug__" : Str)) = false := by decide) (hs : starEach (e :: es) X.env = (false, eval e X.env) :: starEach es X.env := by rfl) (hpl : (backTo pos (starEach es X.env)).any (·.1) = false := by rfl) :
    PE X (.Call (.Name x p) (e :: es) [] pos) (tE (sta X h) W Γ (dCall f mas) n) := impE (pe_callB hc hg hm hv ha hn hdb hs hpl) fun σ H Q w => by
  obtain ⟨H0, G0, Hs, F, η, ok, p⟩ := w
  refine tA.use ok ((Post.bind p).imp fun ds pd vs H1 Hs1 st1 r1 ok1 => ?_)
  exact hf W σ H1 Hs1 ds vs Q ok1.sub r1 ((pd.up st1.all).imp fun d k v H' Hs' Fr st o => k v H' Hs' Fr (st1.trans st) o)
theorem e_ty {x : Str} {T : String} {f : List D → Res D} {r : List V → Hp → VK → Prop} {p : Pos} (hc : CallR X (.type T) r) (hf : CallD (sta X h) r f n) (hg : Gl X x) (hm : X.mg x = none) (hv : bootBuiltins x = some (.type T)) (ha : PA X (e :: es) (tA (sta X h) W Γ mas))
    (hn : x ≠ "__name__" := by decide) (hdb : (x == ("__debug__" : Str)) = false := by decide) (hs : starEach (e :: es) X.env = (false, eval e X.env) :: starEach es X.env := by rfl) (hpl : (backTo pos (starEach es X.env)).any (·.1) = false := by rfl) :
    PE X (.Call (.Name x p) (e :: es) [] pos) (tE (sta X h) W Γ (dCall f mas) n) := impE (pe_callTy hc hg hm hv ha hn hdb hs hpl) fun σ H Q w => by
  obtain ⟨H0, G0, Hs, F, η, ok, p⟩ := w
  refine tA.use ok ((Post.bind p).imp fun ds pd vs H1 Hs1 st1 r1 ok1 => ?_)
  exact hf W σ H1 Hs1 ds vs Q ok1.sub r1 ((pd.up st1.all).imp fun d k v H' Hs' Fr st o => k v H' Hs' Fr (st1.trans st) o)
end
end VL
/-! VLExpr3: built-in functions by name, items, slices, isinstance, defs called, what is owned is looked at, comprehensions. -/
namespace VL
open PySem PySem.Spec L2
theorem bt_abs : bootBuiltins "abs" = some (.builtin "abs") := by decide +kernel
theorem bt_len : bootBuiltins "len" = some (.builtin "len") := by decide +kernel
theorem bt_max : bootBuiltins "max" = some (.builtin "max") := by decide +kernel
theorem bt_min : bootBuiltins "min" = some (.builtin "min") := by decide +kernel
theorem bt_sum : bootBuiltins "sum" = some (.builtin "sum") := by decide +kernel
theorem bt_isi : bootBuiltins "isinstance" = some (.builtin "isinstance") := by decide +kernel
theorem bt_int : bootBuiltins "int" = some (.type "int") := by decide +kernel
theorem bt_bool : bootBuiltins "bool" = some (.type "bool") := by decide +kernel
theorem bt_str : bootBuiltins "str" = some (.type "str") := by decide +kernel
theorem bt_list : bootBuiltins "list" = some (.type "list") := by decide +kernel
theorem bt_tuple : bootBuiltins "tuple" = some (.type "tuple") := by decide +kernel
section
variable {S : Sta} {K : PySem.W.Frag} {X : Cx} {n : Nat} {h : Option (Nat × Addr × Er)}
theorem reps1 {H : Hp} {d : D} {xs : List V} (r : Reps S H [d] xs) : ∃ v, xs = [v] ∧ Rep S H d v := by
  obtain ⟨v, ws, rfl, h1, h2⟩ := Reps.cons_iff.mp r
  rw [Reps.nil_iff.mp h2]
  exact ⟨v, rfl, h1⟩
theorem reps2 {H : Hp} {d e : D} {xs : List V} (r : Reps S H [d, e] xs) : ∃ v w, xs = [v, w] ∧ Rep S H d v ∧ Rep S H e w := by
  obtain ⟨v, ws, rfl, h1, h2⟩ := Reps.cons_iff.mp r
  obtain ⟨w, rfl, h3⟩ := reps1 h2
  exact ⟨v, w, rfl, h1, h3⟩
theorem cd_abs : CallD S (fun xs H Q => ∃ i, xs = [.int i] ∧ Q (.int (if i < 0 then -i else i)) H) fAbs n := by
  intro W σ H Hs as xs Q sub r p
  unfold fAbs at p
  split at p
  · obtain ⟨v, rfl, h1⟩ := reps1 r
    unfold Rep at h1
    exact ⟨_, by rw [h1], p _ H Hs [] (Step.refl sub) (Own.scal rfl rep_int)⟩
  · exact p.elim
theorem cd_int : CallD S (fun xs H Q => (∃ i, xs = [.int i] ∧ Q (.int i) H) ∨ ∃ k, xs = [.bl k] ∧ Q (.int (if k then 1 else 0)) H) fInt n := by
  intro W σ H Hs as xs Q sub r p
  unfold fInt at p
  split at p
  · obtain ⟨v, rfl, h1⟩ := reps1 r
    unfold Rep at h1
    exact .inl ⟨_, by rw [h1], p _ H Hs [] (Step.refl sub) (Own.scal rfl rep_int)⟩
  · obtain ⟨v, rfl, h1⟩ := reps1 r
    unfold Rep at h1
    exact .inr ⟨_, by rw [h1], p _ H Hs [] (Step.refl sub) (Own.scal rfl rep_int)⟩
  · exact p.elim
theorem cd_len : CallD (sta X h) (fun xs H Q => ∃ p ys, xs = [.ref p] ∧ (SqL X.K H p ys ∨ SqT X.K H p ys) ∧ Q (.int ys.length) H) fLen n := by
  intro W σ H Hs as xs Q sub r p
  unfold fLen at p
  split at p
  · obtain ⟨v, rfl, h1⟩ := reps1 r
    unfold Rep at h1
    obtain ⟨a, vs, rfl, h2, h3⟩ := h1
    exact ⟨a, vs, rfl, .inl (.inl (rd_sub sub h2)), by rw [h3.length]; exact p _ H Hs [] (Step.refl sub) (Own.scal rfl rep_int)⟩
  · obtain ⟨v, rfl, h1⟩ := reps1 r
    unfold Rep at h1
    obtain ⟨a, vs, rfl, h2, h3⟩ := h1
    exact ⟨a, vs, rfl, .inr (sqt_sub sub h2), by rw [h3.length]; exact p _ H Hs [] (Step.refl sub) (Own.scal rfl rep_int)⟩
  · exact p.elim
theorem cd_max2 : CallD S (fun xs H Q => ∃ i j, xs = [.int i, .int j] ∧ Q (.int (if j > i then j else i)) H) fMax2 n := by
  intro W σ H Hs as xs Q sub r p
  unfold fMax2 at p
  split at p
  · obtain ⟨v, w, rfl, h1, h2⟩ := reps2 r
    unfold Rep at h1 h2
    exact ⟨_, _, by rw [h1, h2], p _ H Hs [] (Step.refl sub) (Own.scal rfl rep_int)⟩
  · exact p.elim
theorem cd_min2 : CallD S (fun xs H Q => ∃ i j, xs = [.int i, .int j] ∧ Q (.int (if j < i then j else i)) H) fMin2 n := by
  intro W σ H Hs as xs Q sub r p
  unfold fMin2 at p
  split at p
  · obtain ⟨v, w, rfl, h1, h2⟩ := reps2 r
    unfold Rep at h1 h2
    exact ⟨_, _, by rw [h1, h2], p _ H Hs [] (Step.refl sub) (Own.scal rfl rep_int)⟩
  · exact p.elim
theorem maxL_spec : ∀ (a : Int) (r : List Int), maxL (a :: r) ∈ a :: r ∧ ∀ y ∈ a :: r, y ≤ maxL (a :: r)
  | a, [] => ⟨by simp [maxL], fun y hy => by simp at hy; simp [maxL, hy]⟩
  | a, b :: r => by
    obtain ⟨h1, h2⟩ := maxL_spec b r
    unfold maxL
    split
    · rename_i hlt
      refine ⟨List.mem_cons_of_mem _ h1, fun y hy => ?_⟩
      rcases List.mem_cons.mp hy with e | hy
      · rw [e]; omega
      · exact h2 y hy
    · rename_i hlt
      refine ⟨List.mem_cons_self, fun y hy => ?_⟩
      rcases List.mem_cons.mp hy with e | hy
      · rw [e]; omega
      · have := h2 y hy; omega
theorem minL_spec : ∀ (a : Int) (r : List Int), minL (a :: r) ∈ a :: r ∧ ∀ y ∈ a :: r, minL (a :: r) ≤ y
  | a, [] => ⟨by simp [minL], fun y hy => by simp at hy; simp [minL, hy]⟩
  | a, b :: r => by
    obtain ⟨h1, h2⟩ := minL_spec b r
    unfold minL
    split
    · rename_i hlt
      refine ⟨List.mem_cons_of_mem _ h1, fun y hy => ?_⟩
      rcases List.mem_cons.mp hy with e | hy
      · rw [e]; omega
      · exact h2 y hy
    · rename_i hlt
      refine ⟨List.mem_cons_self, fun y hy => ?_⟩
      rcases List.mem_cons.mp hy with e | hy
      · rw [e]; omega
      · have := h2 y hy; omega
theorem cd_max : CallD (sta X h) (rMax X.K) fMax n := by
  intro W σ H Hs as xs Q sub r p
  unfold fMax at p
  split at p
  · rename_i ds
    obtain ⟨v, rfl, h1⟩ := reps1 r
    unfold Rep at h1
    obtain ⟨a, vs, rfl, h2, h3⟩ := h1
    split at p
    · rename_i z zs e
      have ev := h3.ints e
      subst ev
      refine ⟨a, z :: zs, rfl, .inl (rd_sub sub h2), by simp, fun m hm hle => ?_⟩
      obtain ⟨q1, q2⟩ := maxL_spec z zs
      have em : m = maxL (z :: zs) := Int.le_antisymm (q2 m hm) (hle _ q1)
      rw [em]
      exact p _ H Hs [] (Step.refl sub) (Own.scal rfl rep_int)
    · exact p.elim
  · exact p.elim
theorem cd_min : CallD (sta X h) (rMin X.K) fMin n := by
  intro W σ H Hs as xs Q sub r p
  unfold fMin at p
  split at p
  · rename_i ds
    obtain ⟨v, rfl, h1⟩ := reps1 r
    unfold Rep at h1
    obtain ⟨a, vs, rfl, h2, h3⟩ := h1
    split at p
    · rename_i z zs e
      have ev := h3.ints e
      subst ev
      refine ⟨a, z :: zs, rfl, .inl (rd_sub sub h2), by simp, fun m hm hle => ?_⟩
      obtain ⟨q1, q2⟩ := minL_spec z zs
      have em : m = minL (z :: zs) := Int.le_antisymm (hle _ q1) (q2 m hm)
      rw [em]
      exact p _ H Hs [] (Step.refl sub) (Own.scal rfl rep_int)
    · exact p.elim
  · exact p.elim
theorem cd_sum : CallD (sta X h) (rSum X.K) fSum n := by
  intro W σ H Hs as xs Q sub r p
  unfold fSum at p
  split at p
  · rename_i ds
    obtain ⟨v, rfl, h1⟩ := reps1 r
    unfold Rep at h1
    obtain ⟨a, vs, rfl, h2, h3⟩ := h1
    split at p
    · rename_i zs e
      have ev := h3.ints e
      subst ev
      exact ⟨a, zs, rfl, .inl (rd_sub sub h2), p _ H Hs [] (Step.refl sub) (Own.scal rfl rep_int)⟩
    · exact p.elim
  · exact p.elim
theorem cd_list : CallD (sta X h) (fun xs H Q => ∃ p ys, xs = [.ref p] ∧ (SqL X.K H p ys ∨ SqT X.K H p ys) ∧ ∀ l, H l = none → Q (.ref l) (upd H l (.lst ys))) fList 1 := by
  intro W σ H Hs as xs Q sub r p
  unfold fList at p
  split at p
  · obtain ⟨v, rfl, h1⟩ := reps1 r
    unfold Rep at h1
    obtain ⟨a, vs, rfl, h2, h3⟩ := h1
    exact ⟨a, vs, rfl, .inl (.inl (rd_sub sub h2)), fun l hl => p _ _ _ _ (Step.newO sub hl) (own_new hl h3)⟩
  · obtain ⟨v, rfl, h1⟩ := reps1 r
    unfold Rep at h1
    obtain ⟨a, vs, rfl, h2, h3⟩ := h1
    exact ⟨a, vs, rfl, .inr (sqt_sub sub h2), fun l hl => p _ _ _ _ (Step.newO sub hl) (own_new hl h3)⟩
  · exact p.elim
theorem cd_tuple : CallD (sta X h) (fun xs H Q => ∃ p ys, xs = [.ref p] ∧ ((SqL X.K H p ys ∧ ∀ l, H l = none → Q (.ref l) (upd H l (.tup ys))) ∨ (SqT X.K H p ys ∧ Q (.ref p) H))) fTuple n := by
  intro W σ H Hs as xs Q sub r p
  unfold fTuple at p
  split at p
  · obtain ⟨v, rfl, h1⟩ := reps1 r
    unfold Rep at h1
    obtain ⟨a, vs, rfl, h2, h3⟩ := h1
    exact ⟨a, vs, rfl, .inl ⟨.inl (rd_sub sub h2), fun l hl => p _ _ _ _ (Step.newS sub hl) (Own.scal rfl (rep_newT sub hl h3))⟩⟩
  · obtain ⟨v, rfl, h1⟩ := reps1 r
    have h1' := h1
    unfold Rep at h1
    obtain ⟨a, vs, rfl, h2, h3⟩ := h1
    exact ⟨a, vs, rfl, .inr ⟨sqt_sub sub h2, p _ H Hs [] (Step.refl sub) (Own.scal rfl h1')⟩⟩
  · exact p.elim
/-! ### items -/
theorem atD_get {xs : List D} {i : Int} {d : D} {H : Hp} {vs : List V} (r : Reps S H xs vs) (e : atD xs i = some d) : ∃ v, atI vs i = some v ∧ Rep S H d v := by
  unfold atD at e
  unfold atI
  obtain ⟨j, e1, e2⟩ := Option.bind_eq_some_iff.mp e
  obtain ⟨v, e3, e4⟩ := r.get e2
  refine ⟨v, ?_, e4⟩
  rw [r.length]
  exact Option.bind_eq_some_iff.mpr ⟨j, e1, e3⟩
theorem od_ix : OpD (sta X h) (rIx X.K) opIx 0 := by
  intro W σ H Hs a b x y Q sub ra rb p
  unfold opIx at p
  split at p
  · split at p
    · rename_i d e
      unfold Rep at ra rb
      obtain ⟨l, vs, rfl, h2, h3⟩ := ra
      obtain ⟨v, e1, e2⟩ := atD_get h3 e
      exact .inl ⟨l, vs, _, v, rfl, rb, .inl (rd_sub sub h2), e1, p _ H Hs [] (Step.refl sub) e2.own⟩
    · exact p.elim
  · split at p
    · rename_i d e
      unfold Rep at ra rb
      obtain ⟨l, vs, rfl, h2, h3⟩ := ra
      obtain ⟨v, e1, e2⟩ := atD_get h3 e
      exact .inr (.inl ⟨l, vs, _, v, rfl, rb, sqt_sub sub h2, e1, p _ H Hs [] (Step.refl sub) e2.own⟩)
    · exact p.elim
  · exact p.elim
end
section
variable {X : Cx} {W : WX} {Γ Γ' : List Nat} {h : Option (Nat × Addr × Er)} {a b c e : Expr} {es rest : List Expr} {ma mb mc : M D} {mas : M (List D)} {qa qb : M Bool} {na nb nc n k : Nat} {pos p : Pos}
theorem e_abs (hm : X.mg "abs" = none) (ha : PA X (e :: es) (tA (sta X h) W Γ mas)) (hg : Gl X "abs" := by rfl) (hs : starEach (e :: es) X.env = (false, eval e X.env) :: starEach es X.env := by rfl) (hpl : (backTo pos (starEach es X.env)).any (·.1) = false := by rfl) :
    PE X (.Call (.Name "abs" p) (e :: es) [] pos) (tE (sta X h) W Γ (dCall fAbs mas) n) := e_blt call_abs cd_abs hg hm bt_abs ha (by decide) (by decide) hs hpl
theorem e_len (hm : X.mg "len" = none) (ha : PA X (e :: es) (tA (sta X h) W Γ mas)) (hg : Gl X "len" := by rfl) (hs : starEach (e :: es) X.env = (false, eval e X.env) :: starEach es X.env := by rfl) (hpl : (backTo pos (starEach es X.env)).any (·.1) = false := by rfl) :
    PE X (.Call (.Name "len" p) (e :: es) [] pos) (tE (sta X h) W Γ (dCall fLen mas) n) := e_blt call_len_seq cd_len hg hm bt_len ha (by decide) (by decide) hs hpl
theorem e_int' (hm : X.mg "int" = none) (ha : PA X (e :: es) (tA (sta X h) W Γ mas)) (hg : Gl X "int" := by rfl) (hs : starEach (e :: es) X.env = (false, eval e X.env) :: starEach es X.env := by rfl) (hpl : (backTo pos (starEach es X.env)).any (·.1) = false := by rfl) :
    PE X (.Call (.Name "int" p) (e :: es) [] pos) (tE (sta X h) W Γ (dCall fInt mas) n) := e_ty call_int1 cd_int hg hm bt_int ha (by decide) (by decide) hs hpl
theorem e_max2 (hm : X.mg "max" = none) (ha : PA X (e :: es) (tA (sta X h) W Γ mas)) (hc : X.calm = true := by rfl) (hg : Gl X "max" := by rfl) (hs : starEach (e :: es) X.env = (false, eval e X.env) :: starEach es X.env := by rfl) (hpl : (backTo pos (starEach es X.env)).any (·.1) = false := by rfl) :
    PE X (.Call (.Name "max" p) (e :: es) [] pos) (tE (sta X h) W Γ (dCall fMax2 mas) n) := e_blt (call_max2 hc) cd_max2 hg hm bt_max ha (by decide) (by decide) hs hpl
theorem e_min2 (hm : X.mg "min" = none) (ha : PA X (e :: es) (tA (sta X h) W Γ mas)) (hc : X.calm = true := by rfl) (hg : Gl X "min" := by rfl) (hs : starEach (e :: es) X.env = (false, eval e X.env) :: starEach es X.env := by rfl) (hpl : (backTo pos (starEach es X.env)).any (·.1) = false := by rfl) :
    PE X (.Call (.Name "min" p) (e :: es) [] pos) (tE (sta X h) W Γ (dCall fMin2 mas) n) := e_blt (call_min2 hc) cd_min2 hg hm bt_min ha (by decide) (by decide) hs hpl
theorem e_max (hm : X.mg "max" = none) (ha : PA X (e :: es) (tA (sta X h) W Γ mas)) (hc : X.calm = true := by rfl) (hg : Gl X "max" := by rfl) (hs : starEach (e :: es) X.env = (false, eval e X.env) :: starEach es X.env := by rfl) (hpl : (backTo pos (starEach es X.env)).any (·.1) = false := by rfl) :
    PE X (.Call (.Name "max" p) (e :: es) [] pos) (tE (sta X h) W Γ (dCall fMax mas) n) := e_blt (cr_max hc) cd_max hg hm bt_max ha (by decide) (by decide) hs hpl
theorem e_min (hm : X.mg "min" = none) (ha : PA X (e :: es) (tA (sta X h) W Γ mas)) (hc : X.calm = true := by rfl) (hg : Gl X "min" := by rfl) (hs : starEach (e :: es) X.env = (false, eval e X.env) :: starEach es X.env := by rfl) (hpl : (backTo pos (starEach es X.env)).any (·.1) = false := by rfl) :
    PE X (.Call (.Name "min" p) (e :: es) [] pos) (tE (sta X h) W Γ (dCall fMin mas) n) := e_blt (cr_min hc) cd_min hg hm bt_min ha (by decide) (by decide) hs hpl
theorem e_sum (hm : X.mg "sum" = none) (ha : PA X (e :: es) (tA (sta X h) W Γ mas)) (hc : X.calm = true := by rfl) (hg : Gl X "sum" := by rfl) (hs : starEach (e :: es) X.env = (false, eval e X.env) :: starEach es X.env := by rfl) (hpl : (backTo pos (starEach es X.env)).any (·.1) = false := by rfl) :
    PE X (.Call (.Name "sum" p) (e :: es) [] pos) (tE (sta X h) W Γ (dCall fSum mas) n) := e_blt (cr_sum hc) cd_sum hg hm bt_sum ha (by decide) (by decide) hs hpl
theorem e_list (hm : X.mg "list" = none) (ha : PA X (e :: es) (tA (sta X h) W Γ mas)) (hg : Gl X "list" := by rfl) (hs : starEach (e :: es) X.env = (false, eval e X.env) :: starEach es X.env := by rfl) (hpl : (backTo pos (starEach es X.env)).any (·.1) = false := by rfl) :
    PE X (.Call (.Name "list" p) (e :: es) [] pos) (tE (sta X h) W Γ (dCall fList mas) 1) := e_ty call_list_of cd_list hg hm bt_list ha (by decide) (by decide) hs hpl
theorem e_tuple (hm : X.mg "tuple" = none) (ha : PA X (e :: es) (tA (sta X h) W Γ mas)) (hg : Gl X "tuple" := by rfl) (hs : starEach (e :: es) X.env = (false, eval e X.env) :: starEach es X.env := by rfl) (hpl : (backTo pos (starEach es X.env)).any (·.1) = false := by rfl) :
    PE X (.Call (.Name "tuple" p) (e :: es) [] pos) (tE (sta X h) W Γ (dCall fTuple mas) n) := e_ty call_tuple_of cd_tuple hg hm bt_tuple ha (by decide) (by decide) hs hpl
theorem e_ix (ha : PE X a (tE (sta X h) W Γ ma na)) (hb : PE X b (tE (sta X h) W Γ mb nb)) (hs : PlainIx b := by intro _ _; rfl) : PE X (.Subscript a b pos) (tE (sta X h) W Γ (dOp2 opIx ma mb) 0) := impE (pe_ix ix_seq ha hb hs) fun σ H Q w => op2_of od_ix w
/-! ### isinstance of a built-in type -/
theorem isTy_kit {K : PySem.W.Frag} {T : String} {d : D} {bb : Bool} {H : Hp} {v : V} {S : Sta} (hK : S.K = K) (r : Rep S H d v) (e : isTy T d = some bb) : ∃ t, TyX K H v t ∧ PySem.W.kitOne K t (.type T) = some bb := by
  have g : ∀ {A : String}, kitB A T = some bb → PySem.W.kitOne K (.type A) (.type T) = some bb := fun h => kit_ty h
  have sq : ∀ {a : Addr} {us : List V}, SqT K H a us → ∃ t, TyX K H (.ref a) t ∧ t = .type "tuple" := fun {a us} hh => by
    rcases hh with (e | ⟨o, e⟩) | ⟨o, its, m, e, c, _⟩
    · exact ⟨_, .base (.tup e), rfl⟩
    · exact ⟨_, .fTuple e, rfl⟩
    · exact ⟨_, .kTuple e c, rfl⟩
  cases d with
  | non =>
    unfold Rep at r
    subst r
    refine ⟨_, .base .non, g ?_⟩
    dsimp only [isTy] at e
    split at e
    · rename_i hT
      cases e
      rcases hT with rfl | rfl | rfl | rfl | rfl <;> decide +kernel
    · cases e
  | bl x =>
    unfold Rep at r
    subst r
    refine ⟨_, .base (.bl x), g ?_⟩
    dsimp only [isTy] at e
    split at e
    · rename_i hT
      cases e
      rcases hT with rfl | rfl <;> decide +kernel
    · split at e
      · rename_i hT
        cases e
        rcases hT with rfl | rfl | rfl <;> decide +kernel
      · cases e
  | int x =>
    unfold Rep at r
    subst r
    refine ⟨_, .base (.int x), g ?_⟩
    dsimp only [isTy] at e
    split at e
    · rename_i hT
      cases e
      subst hT
      decide +kernel
    · split at e
      · rename_i hT
        cases e
        rcases hT with rfl | rfl | rfl | rfl <;> decide +kernel
      · cases e
  | str x =>
    unfold Rep at r
    subst r
    refine ⟨_, .base (.str x), g ?_⟩
    dsimp only [isTy] at e
    split at e
    · rename_i hT
      cases e
      subst hT
      decide +kernel
    · split at e
      · rename_i hT
        cases e
        rcases hT with rfl | rfl | rfl | rfl <;> decide +kernel
      · cases e
  | lst xs =>
    unfold Rep at r
    obtain ⟨l, vs, rfl, h2, h3⟩ := r
    have ty : TyX K H (.ref l) (.type "list") := by
      rcases h2 with e | ⟨o, e⟩
      · exact .base (.lst e)
      · exact .base (.frz e)
    refine ⟨_, ty, g ?_⟩
    dsimp only [isTy] at e
    split at e
    · rename_i hT
      cases e
      subst hT
      decide +kernel
    · split at e
      · rename_i hT
        cases e
        rcases hT with rfl | rfl | rfl | rfl <;> decide +kernel
      · cases e
  | tup xs =>
    unfold Rep at r
    obtain ⟨l, vs, rfl, h2, h3⟩ := r
    rw [hK] at h2
    obtain ⟨t, ty, rfl⟩ := sq h2
    refine ⟨_, ty, g ?_⟩
    dsimp only [isTy] at e
    split at e
    · rename_i hT
      cases e
      subst hT
      decide +kernel
    · split at e
      · rename_i hT
        cases e
        rcases hT with rfl | rfl | rfl | rfl <;> decide +kernel
      · cases e
  | byt x => cases e
  | ins x y => cases e
theorem e_isTy {T : String} {x : Str} {p2 : Pos} (hm : X.mg "isinstance" = none) (hmT : X.mg x = none) (hv : bootBuiltins x = some (.type T)) (ha : PE X a (tE (sta X h) W Γ ma na)) (hg : Gl X "isinstance" := by rfl) (hgT : Gl X x := by rfl)
    (hn : x ≠ "__name__" := by decide) (hd : (x == ("__debug__" : Str)) = false := by decide)
    (hs : starEach [a, .Name x p2] X.env = (false, eval a X.env) :: starEach [.Name x p2] X.env := by rfl) (hs2 : starEach [.Name x p2] X.env = (false, eval (.Name x p2) X.env) :: starEach [] X.env := by rfl) (hpl : (backTo pos (starEach [.Name x p2] X.env)).any (·.1) = false := by rfl) :
    PE X (.Call (.Name "isinstance" p) [a, .Name x p2] [] pos) (tE (sta X h) W Γ (dOp1 (opIsTy T) ma) n) :=
  impE (pe_callB call_isi hg hm bt_isi (pa_cons ha (pa_cons (pe_bltn (v := .ty T) hgT hmT hv rfl hn hd) pa_nil hs2) hs) (by decide) (by decide) hs hpl) fun σ H Q w => by
    obtain ⟨H0, G0, Hs, F, η, ok, p⟩ := w
    refine tE.use ok ((Post.bind p).imp fun d pd v H' Hs' st rd ok' => ?_)
    unfold opIsTy at pd
    split at pd
    · rename_i bb e
      obtain ⟨t, ty, kk⟩ := isTy_kit (K := X.K) rfl (rd.same ok'.sub) e
      exact ⟨v, .ty T, t, .type T, bb, rfl, .ty T, ty, kk, pd _ H' Hs' [] st (Own.scal rfl rep_bl)⟩
    · exact pd.elim
/-! ### what is owned is looked at -/
theorem own_at {S : Sta} {H0 G0 H Hs : Hp} {F : Nat → List Addr} {σ : L2.St} {η : Env} {m : Nat} {xs : List D} (ok : EOk S H0 G0 H Hs Γ F σ η) (hg : Γ.getD k 0 = m + 1) (e : η[k]? = some (some (.lst xs))) : ∃ (l : Addr) (vs : List V) (G : List Addr), σ[k]? = some (some (.ref l)) ∧ F k = l :: G ∧ H l = some (.lst vs) ∧ Owns S H Hs xs m vs G := by
  obtain ⟨v, h1, h2⟩ := ok.slot k _ e
  rw [hg] at h2
  obtain ⟨l, vs, G, rfl, h3, h4, h5⟩ := Own.succ.mp h2
  exact ⟨l, vs, G, h1, h3, h4, h5⟩
def lenAt (k : Nat) : M D := fun η => (lstAt η k).bind fun xs => .ok (.int xs.length)
theorem lstAt_ok {S : Sta} {σ : L2.St} {H : Hp} {η : Env} {k' : List D → Prop} (p : Post S W σ H (lstAt η k) k') : ∃ xs, η[k]? = some (some (.lst xs)) ∧ k' xs := by
  unfold lstAt at p
  split at p
  · rename_i xs e
    exact ⟨xs, e, p⟩
  · exact p.elim
theorem e_lenO {x : Str} {p2 : Pos} (k : Nat) {m : Nat} (hm : X.mg "len" = none) (hG : Γ.getD k 0 = m + 1 := by rfl) (hN : X.N[k]? = some x := by rfl) (hv : Vis X.env.scope x := by first | exact Or.inl rfl | exact Or.inr (Or.inl rfl) | exact Or.inr (Or.inr rfl)) (hd : (x == ("__debug__" : Str)) = false := by decide)
    (hcd : (x == ("__classdict__" : Str)) = false := by decide) (hg : Gl X "len" := by rfl) (hs : starEach [.Name x p2] X.env = (false, eval (.Name x p2) X.env) :: starEach [] X.env := by rfl) (hpl : (backTo pos (starEach [] X.env)).any (·.1) = false := by rfl) :
    PE X (.Call (.Name "len" p) [.Name x p2] [] pos) (tE (sta X h) W Γ (lenAt k) n) :=
  impE (pe_callB call_len_seq hg hm bt_len (pa_cons (pe_var hN hv hd hcd) pa_nil hs) (by decide) (by decide) hs hpl) fun σ H Q w => by
    obtain ⟨H0, G0, Hs, F, η, ok, p⟩ := w
    obtain ⟨xs, e, px⟩ := lstAt_ok (Post.bind p)
    obtain ⟨l, vs, G, h1, h2, h3, h4⟩ := own_at ok hG e
    exact ⟨.ref l, h1, l, vs, rfl, .inl (SqL.of h3), by rw [h4.length]; exact px _ H Hs [] (Step.refl ok.sub) (Own.scal rfl rep_int)⟩
def ixL (xs : List D) : D → Res D
  | .int i => (match atD xs i with | some d => .ok d | none => .stuck)
  | _ => .stuck
def ixAt (k : Nat) (b : M D) : M D := fun η => (lstAt η k).bind fun xs => (b η).bind fun y => ixL xs y
theorem e_ixO {x : Str} {p2 : Pos} (k : Nat) (hb : PE X b (tE (sta X h) W Γ mb nb)) (hG : Γ.getD k 0 = 1 := by rfl) (hN : X.N[k]? = some x := by rfl) (hv : Vis X.env.scope x := by first | exact Or.inl rfl | exact Or.inr (Or.inl rfl) | exact Or.inr (Or.inr rfl)) (hd : (x == ("__debug__" : Str)) = false := by decide)
    (hcd : (x == ("__classdict__" : Str)) = false := by decide) (hs : PlainIx b := by intro _ _; rfl) : PE X (.Subscript (.Name x p2) b pos) (tE (sta X h) W Γ (ixAt k mb) 0) := impE (pe_ix ix_list (pe_var hN hv hd hcd) hb hs) fun σ H Q w => by
  obtain ⟨H0, G0, Hs, F, η, ok, p⟩ := w
  obtain ⟨xs, e, px⟩ := lstAt_ok (Post.bind p)
  obtain ⟨l, vs, G, h1, h2, h3, h4⟩ := own_at ok hG e
  refine ⟨.ref l, h1, tE.use ok ((Post.bind px).imp fun y py u H' Hs' st ru ok' => ?_)⟩
  unfold ixL at py
  split at py
  · rename_i i
    split at py
    · rename_i d e2
      unfold Rep at ru
      obtain ⟨-, r4⟩ := h4.reps
      obtain ⟨v, e1, e3⟩ := atD_get (r4.same st.shr) e2
      exact ⟨l, vs, i, v, rfl, ru, SqL.of (st.all _ _ h3), e1, py v H' Hs' [] st e3.own⟩
    · exact py.elim
  · exact py.elim
/-- borrowed: the slots that p does not keep are shared while e runs; e's value is none, a bool, an int, a text -/
def keepG (Γ : List Nat) (p : Nat → Bool) : List Nat := (List.range Γ.length).map fun i => if p i then Γ.getD i 0 else 0
def scalD : D → Bool
  | .non => true
  | .bl _ => true
  | .int _ => true
  | .str _ => true
  | _ => false
def scalM (m : M D) : M D := fun η => (m η).bind fun d => if scalD d then .ok d else .stuck
theorem scal_rep {S : Sta} {H H' : Hp} {d : D} {v : V} (hd : scalD d = true) (r : Rep S H d v) : Rep S H' d v := by
  cases d <;> first | (simp [scalD] at hd; done) | (unfold Rep at r ⊢; exact r)
theorem e_bor (p : Nat → Bool) (ha : PE X e (tE (sta X h) W (keepG Γ p) ma na)) : PE X e (tE (sta X h) W Γ (scalM ma) n) := impE ha fun σ H Q w => by
  obtain ⟨H0, G0, Hs, F, η, ok, pp⟩ := w
  obtain ⟨Hs1, F1, ok1, sm, _⟩ := ok.froz p
  refine tE.use (n := na) ok1 ((Post.bind pp).imp fun d pd v H' Hs' st rd ok' => ?_)
  split at pd
  · rename_i hd
    exact pd v H' Hs [] ⟨st.all, Same.refl _, ok.sub.trans st.all, fun a h1 _ => h1, fun _ z => absurd z List.not_mem_nil, List.nodup_nil⟩ (Own.scal (by cases d <;> first | rfl | (simp [scalD] at hd)) (scal_rep hd rd))
  · exact pd.elim
theorem q_bor (p : Nat → Bool) (ha : PT X e (tQ (sta X h) W (keepG Γ p) qa)) : PT X e (tQ (sta X h) W Γ qa) := impT ha fun σ H Q w => by
  obtain ⟨H0, G0, Hs, F, η, ok, pp⟩ := w
  obtain ⟨Hs1, F1, ok1, sm, _⟩ := ok.froz p
  exact tQ.use ok1 (pp.imp fun b pd H' Hs' st ok' => pd H' Hs ⟨st.all, Same.refl _, ok.sub.trans st.all, fun a h1 _ => h1, fun _ z => absurd z List.not_mem_nil, List.nodup_nil⟩)
/-! ### slices -/
theorem p_none : PO X none (tP (sta X h) W Γ oNone) := impO po_none fun σ H Q w => by
  obtain ⟨H0, G0, Hs, F, η, ok, p⟩ := w
  exact p H Hs (Step.refl ok.sub)
theorem p_some (ha : PE X e (tE (sta X h) W Γ ma na)) : PO X (some e) (tP (sta X h) W Γ (oSome ma)) := impO (po_some ha) fun σ H Q w => by
  obtain ⟨H0, G0, Hs, F, η, ok, p⟩ := w
  refine tE.use ok ((Post.bind p).imp fun d pd v H' Hs' st rd ok' => ?_)
  unfold toI at pd
  split at pd
  · rename_i i
    unfold Rep at rd
    exact ⟨i, rd, pd H' Hs' st⟩
  · exact pd.elim
def opSlL (x : D) (lo hi : Option Int) : Res D := match x with
  | .lst xs => .ok (.lst (cutD xs lo hi))
  | _ => .stuck
def dSlL (a : M D) (lo hi : M (Option Int)) : M D := fun η => (a η).bind fun x => (lo η).bind fun l => (hi η).bind fun h => opSlL x l h
theorem slIx_eq (n d : Nat) (o : Option Int) : slIx n d o = HT.sIx n d o := by cases o <;> rfl
theorem cut_reps {S : Sta} {H : Hp} {ds : List D} {vs : List V} (r : Reps S H ds vs) (lo hi : Option Int) : Reps S H (cutD ds lo hi) (cutV vs lo hi) := by
  unfold cutD cutV
  rw [slIx_eq, slIx_eq, r.length]
  exact (r.drop _).take _
theorem e_slL {lo hi : Option Expr} {p2 : Pos} {ml mh : M (Option Int)} (ha : PE X a (tE (sta X h) W Γ ma na)) (hl : PO X lo (tP (sta X h) W Γ ml)) (hh : PO X hi (tP (sta X h) W Γ mh)) : PE X (.Subscript a (.Slice lo hi none p2) pos) (tE (sta X h) W Γ (dSlL ma ml mh) 1) :=
  impE (pe_slice sl_list ha hl hh) fun σ H Q w => by
    obtain ⟨H0, G0, Hs, F, η, ok, p⟩ := w
    refine tE.use ok ((Post.bind p).imp fun d pd v H1 Hs1 st1 rd ok1 => ?_)
    refine tP.use ok1 (((Post.bind pd).up st1.all).imp fun l pl H2 Hs2 st2 ok2 => ?_)
    refine tP.use ok2 (((Post.bind pl).up (st1.all.trans st2.all)).imp fun u pu H3 Hs3 st3 ok3 => ?_)
    unfold opSlL at pu
    split at pu
    · rename_i ds
      unfold Rep at rd
      obtain ⟨a, vs, rfl, r1, r2⟩ := rd
      have st := (st1.trans st2).trans st3
      have r2' := r2.same (st2.trans st3).shr
      refine ⟨a, vs, rfl, .inl (rd_sub ((st2.trans st3).shr.trans ok3.sub) r1), fun q hq => ?_⟩
      exact pu _ _ _ _ (st.trans (Step.newO ok3.sub hq)) (own_new hq (cut_reps r2' l u))
    · exact pu.elim
def opSlT (x : D) (lo hi : Option Int) : Res D := match x with
  | .tup xs => if slIx xs.length 0 lo = 0 ∧ slIx xs.length xs.length hi = xs.length then .stuck else .ok (.tup (cutD xs lo hi))
  | _ => .stuck
def dSlT (a : M D) (lo hi : M (Option Int)) : M D := fun η => (a η).bind fun x => (lo η).bind fun l => (hi η).bind fun h => opSlT x l h
theorem e_slT {lo hi : Option Expr} {p2 : Pos} {ml mh : M (Option Int)} (ha : PE X a (tE (sta X h) W Γ ma na)) (hl : PO X lo (tP (sta X h) W Γ ml)) (hh : PO X hi (tP (sta X h) W Γ mh)) : PE X (.Subscript a (.Slice lo hi none p2) pos) (tE (sta X h) W Γ (dSlT ma ml mh) n) :=
  impE (pe_slice sl_tup ha hl hh) fun σ H Q w => by
    obtain ⟨H0, G0, Hs, F, η, ok, p⟩ := w
    refine tE.use ok ((Post.bind p).imp fun d pd v H1 Hs1 st1 rd ok1 => ?_)
    refine tP.use ok1 (((Post.bind pd).up st1.all).imp fun l pl H2 Hs2 st2 ok2 => ?_)
    refine tP.use ok2 (((Post.bind pl).up (st1.all.trans st2.all)).imp fun u pu H3 Hs3 st3 ok3 => ?_)
    unfold opSlT at pu
    split at pu
    · rename_i ds
      split at pu
      · exact pu.elim
      · rename_i hw
        unfold Rep at rd
        obtain ⟨a, vs, rfl, r1, r2⟩ := rd
        have st := (st1.trans st2).trans st3
        have r2' := r2.same (st2.trans st3).shr
        refine ⟨a, vs, rfl, sqt_sub ((st2.trans st3).shr.trans ok3.sub) r1, ?_, fun q hq => ?_⟩
        · rw [← slIx_eq, ← slIx_eq, r2.length]; exact hw
        · exact pu _ _ _ [] (st.trans (Step.newS ok3.sub hq)) (Own.scal rfl (rep_newT ok3.sub hq (cut_reps r2' l u)))
    · exact pu.elim
end
end VL
/-! VLExpr4: defs called; what is walked, what is bound, comprehensions. -/
namespace VL
open PySem PySem.Spec L2
/-! ### defs -/
/-- the def's promise: it does what f says; its result is new to the depth n -/
def spF (S : Sta) (ar : Nat) (f : List D → Res D) (n : Nat) : Sp := fun vs H Q E => ∃ (ds : List D) (Hs : Hp), ds.length = ar ∧ Same Hs H ∧ Reps S Hs ds vs ∧
  Post S (fun cls d _ H' => E cls d H') [] H (f ds) fun d => ∀ (v : V) (H' Hs' : Hp) (Fr : List Addr), Step H Hs H' Hs' Fr → Own S H' Hs' d n v Fr → Q v H'
structure FnS (P : Program) (w : World) (K : PySem.W.Frag) (mg : Str → Option Value) (base : Heap) (x : Str) (k ar : Nat) (f : List D → Res D) (n : Nat) (dfl : List D) : Prop where
  ex : ∃ (fA : Addr) (fd : FuncData) (ps : List Str) (ds : List Value) (dvs : List V), mg x = some (.ref fA) ∧ PySem.W.keepIn K (.ref fA) = true ∧
    FnOk P w K mg base (L2.CX P w) k fA fd ps (spF ⟨K, mg, none⟩ ar f n) ∧ Vals dvs ds ∧ (∀ H, Reps ⟨K, mg, none⟩ H dfl dvs) ∧ Binds K fd ps ds
section
variable {X : Cx} {W : WX} {Γ : List Nat} {e : Expr} {es : List Expr} {mas : M (List D)} {n k ar : Nat} {pos p : Pos} {x : Str} {f : List D → Res D} {dfl : List D}
theorem post_swap {α : Type} {S : Sta} {W W' : WX} {σ σ' : L2.St} {H H1 : Hp} {r : Res α} {k k' : α → Prop} (h : Post S W σ H r k) (s : Same H H1) (e : ∀ cls d H', W cls d σ H' → W' cls d σ' H') (i : ∀ a, k a → k' a) : Post S W' σ' H1 r k' := by
  cases r with
  | ok a => exact i a h
  | exc er => exact fun cls d H' c s' => e cls d H' (h cls d H' c (s.trans s'))
  | stuck => exact h
theorem run_S {CX : CXT} {fA : Addr} {fd : FuncData} {ps : List Str} {sp : Sp} {E : L2.St → XK} {dvs : List V} {ds : List Value} {pins : List (Addr × Obj)} {σ : L2.St} {H : Hp} {s : Shared} {Q : VK} {us : List Value} {vs : List V} (F : FnOk X.prog X.w X.K X.mg X.base CX k fA fd ps sp) (hr : Room k X.A) (hb : Binds X.K fd ps ds) (hd : Vals dvs ds) (hx : PassesAt CX X σ (E σ))
    (I : Inv X pins σ H s) (r : Vals vs us) (h : sp (vs ++ dvs) H Q (E σ)) : wpAny (model X.prog X.w) X.A (call (.ref fA) us) (EP X pins σ Q) X.xe s := by
  have r2 : Vals (vs ++ dvs) (us ++ ds) := r.append hd
  have hl : (us ++ ds).length = ps.length := by rw [← r2.length]; exact F.len _ _ _ _ h
  refine wpAny_call (codeAny_mono (F.run X.A X.stack s H ⟨us, []⟩ (us ++ ds) (vs ++ dvs) Q (E σ) hr I.env0 (hb s us I.kIn hl) r2 h) fun r s' hq => ?_)
  cases r with
  | error e => exact hx pins H s e s' I hq
  | ok fl =>
    cases fl with
    | ret u => exact I.after hq
    | next => exact False.elim hq
    | brk => exact False.elim hq
    | cont => exact False.elim hq
theorem e_call {h : Option (Nat × Addr × Er)} (F : FnS X.prog X.w X.K X.mg X.base x k ar f n dfl) (hr : Room k X.A) (tk : Takes X W) (ha : PA X (e :: es) (tA (sta X h) W Γ mas)) (hlen : es.length + 1 + dfl.length = ar := by rfl) (hml : ∀ η ds, mas η = .ok ds → ds.length = es.length + 1) (hg : Gl X x := by rfl) (hdb : (x == ("__debug__" : Str)) = false := by decide)
    (he : starEach (e :: es) X.env = (false, eval e X.env) :: starEach es X.env := by rfl) (hpl : (backTo pos (starEach es X.env)).any (·.1) = false := by rfl) :
    PE X (.Call (.Name x p) (e :: es) [] pos) (tE (sta X h) W Γ (dCall (fun as => f (as ++ dfl)) mas) n) := by
  obtain ⟨fA, fd, ps, ds, dvs, hm, hk, G, hd, hrep, hb⟩ := F.ex
  refine ⟨fun pins s σ H Q I w => ?_⟩
  obtain ⟨H0, G0, Hs, F, η, ok, pp⟩ := w
  refine wpAny_Call_Name_kw (ld_glob I hg hm ?_ hdb)
  have w : tA (sta X h) W Γ mas σ H fun vs H1 => spF ⟨X.K, X.mg, none⟩ ar f n (vs ++ dvs) H1 Q (WE W σ) := by
    cases hη : mas η with
    | ok as =>
      have hl := hml η as hη
      refine tA.use ok ?_
      have pb := Post.bind pp
      rw [hη] at pb ⊢
      refine fun vs H1 Hs1 st1 r1 ok1 => ⟨as ++ dfl, Hs1, by rw [List.length_append, hl]; exact hlen, ok1.sub, (r1.cool).append (hrep _), ?_⟩
      exact post_swap (S := sta X h) pb st1.all (fun cls d H' q => q) fun d kk v H' Hs' Fr st o => kk v H' Hs' Fr (st1.trans st) (o.cool d _ v _)
    | exc er =>
      refine tA.use ok ?_
      have pb := Post.bind pp
      rw [hη] at pb ⊢
      exact pb
    | stuck =>
      have pb := Post.bind pp
      rw [hη] at pb
      exact pb.elim
  refine PySem.W.callWith_K (h₀ := X.base) I.ok.mod.kin hk (thn (ha.run pos pins s σ H _ I w) fun us s1 ⟨vs, H1, I1, r, q⟩ => ⟨I1.kIn, ?_⟩) he hpl
  exact run_S G hr hb hd (passAt tk σ) I1 r q
end
/-- lengths of written argument lists -/
theorem al_nil : ∀ (η : Env) (ds : List D), aNil η = .ok ds → ds.length = 0 := fun η ds h => by cases h; rfl
theorem al_cons {a : M D} {r : M (List D)} {k : Nat} (h : ∀ (η : Env) (ds : List D), r η = .ok ds → ds.length = k) : ∀ (η : Env) (ds : List D), aCons a r η = .ok ds → ds.length = k + 1 := fun η ds e => by
  unfold aCons at e
  cases ha : a η with
  | ok x =>
    rw [ha] at e
    cases hr : r η with
    | ok xs =>
      rw [hr] at e
      cases e
      rw [List.length_cons, h η xs hr]
    | exc er => rw [hr] at e; cases e
    | stuck => rw [hr] at e; cases e
  | exc er => rw [ha] at e; cases e
  | stuck => rw [ha] at e; cases e

/-! ### what is walked -/
def Walks (S : Sta) (Hs : Hp) (J : It) (ds : List D) : Prop := ∀ (i : Nat) (H' Hs' : Hp), Same Hs Hs' → Same Hs' H' →
  (∀ d, ds[i]? = some d → J.go i H' ∧ ∀ x H'', J.yld i H' x H'' → ∃ Hs'', Step H' Hs' H'' Hs'' [] ∧ Rep S Hs'' d x) ∧ (ds[i]? = none → J.stop i H')
def tI (S : Sta) (W : WX) (Γ : List Nat) (m : M (List D)) : TI := fun σ H R => ∃ (H0 G0 Hs : Hp) (F : Nat → List Addr) (η : Env), EOk S H0 G0 H Hs Γ F σ η ∧
  Post S W σ H (m η) fun ds => ∀ (J : It) (H' Hs' : Hp), Step H Hs H' Hs' [] → Walks S Hs' J ds → R J H'
section
variable {X : Cx} {W : WX} {Γ : List Nat} {h : Option (Nat × Addr × Er)} {a b tg : Expr} {ma mb : M D} {na nb : Nat} {pos p : Pos}
theorem orI {l : Expr} {w1 w2 : TI} (h1 : PI X tg l w1) (h2 : PI X tg l w2) : PI X tg l (fun σ H R => w1 σ H R ∨ w2 σ H R) := ⟨fun pins s σ H R I h => by
  rcases h with h | h
  · exact h1.run pins s σ H R I h
  · exact h2.run pins s σ H R I h⟩
theorem impI {l : Expr} {t t' : TI} (h : PI X tg l t) (i : ∀ σ H R, t' σ H R → t σ H R) : PI X tg l t' := ⟨fun pins s σ H R I w => h.run pins s σ H R I (i σ H R w)⟩
theorem walks_list {S : Sta} {Hs : Hp} {l : Addr} {vs : List V} {ds : List D} (hl : Rd Hs l (.lst vs)) (r : Reps S Hs ds vs) : Walks S Hs (Itl S.K l) ds := fun i H' Hs' s1 s2 => by
  have q : SqL S.K H' l vs := .inl (rd_sub (s1.trans s2) hl)
  refine ⟨fun d hd => ?_, fun hn => ⟨vs, q, by rw [r.length]; exact List.getElem?_eq_none_iff.mp hn⟩⟩
  obtain ⟨v, h1, h2⟩ := r.get hd
  refine ⟨⟨vs, v, q, h1⟩, fun x H'' y => ?_⟩
  obtain ⟨rfl, y⟩ := y
  have e := y vs q
  rw [h1] at e
  cases e
  exact ⟨Hs', Step.refl s2, h2.same s1⟩
theorem walks_tup {S : Sta} {Hs : Hp} {l : Addr} {vs : List V} {ds : List D} (hl : SqT S.K Hs l vs) (r : Reps S Hs ds vs) : Walks S Hs (Itt S.K l) ds := fun i H' Hs' s1 s2 => by
  have q : SqT S.K H' l vs := sqt_sub (s1.trans s2) hl
  refine ⟨fun d hd => ?_, fun hn => ⟨vs, q, by rw [r.length]; exact List.getElem?_eq_none_iff.mp hn⟩⟩
  obtain ⟨v, h1, h2⟩ := r.get hd
  refine ⟨⟨vs, v, q, h1⟩, fun x H'' y => ?_⟩
  obtain ⟨rfl, y⟩ := y
  have e := y vs q
  rw [h1] at e
  cases e
  exact ⟨Hs', Step.refl s2, h2.same s1⟩
theorem walks_range {S : Sta} {Hs : Hp} {lo : Int} {n : Nat} : Walks S Hs (Itr lo n) (rangeD lo n) := fun i H' Hs' s1 s2 => by
  have e : (rangeD lo n)[i]? = if i < n then some (D.int (lo + (i : Int))) else none := by
    unfold rangeD
    by_cases hi : i < n
    · rw [if_pos hi]; simp [hi]
    · rw [if_neg hi]; simp; omega
  refine ⟨fun d hd => ?_, fun hn => ?_⟩
  · rw [e] at hd
    by_cases hi : i < n
    · rw [if_pos hi] at hd
      cases hd
      refine ⟨hi, fun x H'' y => ?_⟩
      obtain ⟨rfl, rfl⟩ := y
      exact ⟨Hs', Step.refl s2, rep_int⟩
    · rw [if_neg hi] at hd; cases hd
  · rw [e] at hn
    by_cases hi : i < n
    · rw [if_pos hi] at hn; cases hn
    · exact Nat.le_of_not_lt hi
theorem i_seq (ha : PE X a (tE (sta X h) W Γ ma na)) : PI X tg a (tI (sta X h) W Γ (iSeq ma)) := impI (orI (pi_list ha) (pi_tup ha)) fun σ H R w => by
  obtain ⟨H0, G0, Hs, F, η, ok, p⟩ := w
  have pb := Post.bind p
  cases hη : ma η with
  | ok d =>
    rw [hη] at pb
    have pb' : Post (sta X h) W σ H (items d) _ := pb
    unfold items at pb'
    split at pb'
    · rename_i ds
      refine .inl (tE.use ok ?_)
      rw [hη]
      refine fun v H' Hs' st rd ok' => ?_
      unfold Rep at rd
      obtain ⟨l, vs, rfl, r1, r2⟩ := rd
      exact ⟨l, rfl, ⟨vs, .inl (rd_sub ok'.sub r1)⟩, pb' (Itl X.K l) H' Hs' st (walks_list r1 r2)⟩
    · rename_i ds
      refine .inr (tE.use ok ?_)
      rw [hη]
      refine fun v H' Hs' st rd ok' => ?_
      unfold Rep at rd
      obtain ⟨l, vs, rfl, r1, r2⟩ := rd
      exact ⟨l, rfl, ⟨vs, sqt_sub ok'.sub r1⟩, pb' (Itt X.K l) H' Hs' st (walks_tup r1 r2)⟩
    · exact pb'.elim
  | exc er =>
    rw [hη] at pb
    refine .inl (tE.use ok ?_)
    rw [hη]
    exact pb
  | stuck =>
    rw [hη] at pb
    exact pb.elim
theorem lim_eq : lim62 = 2 ^ 62 := by decide
theorem i_range1 (hm : X.mg "range" = none) (ha : PE X a (tE (sta X h) W Γ ma na)) (hg : Gl X "range" := by rfl) (hs : starEach [a] X.env = [(false, eval a X.env)] := by rfl) : PI X tg (.Call (.Name "range" p) [a] [] pos) (tI (sta X h) W Γ (iRange1 ma)) := impI (pi_range1 hg hm (pa_cons ha pa_nil hs) hs) fun σ H R w => by
  obtain ⟨H0, G0, Hs, F, η, ok, p⟩ := w
  refine tE.use ok ((Post.bind p).imp fun d pd v H' Hs' st rd ok' => ?_)
  cases d <;> first | exact pd.elim | skip
  rename_i j
  have pd' : Post (sta X h) W σ H (if -lim62 ≤ j ∧ j < lim62 then Res.ok (rangeD 0 j.toNat) else .stuck) _ := pd
  split at pd'
  · rename_i hj
    unfold Rep at rd
    rw [lim_eq] at hj
    exact ⟨j, by rw [rd], hj.1, hj.2, pd' _ H' Hs' st walks_range⟩
  · exact pd'.elim
theorem i_range2 (hm : X.mg "range" = none) (ha : PE X a (tE (sta X h) W Γ ma na)) (hb : PE X b (tE (sta X h) W Γ mb nb)) (hg : Gl X "range" := by rfl) (hs : starEach [a, b] X.env = [(false, eval a X.env), (false, eval b X.env)] := by rfl) (hs2 : starEach [b] X.env = [(false, eval b X.env)] := by rfl) :
    PI X tg (.Call (.Name "range" p) [a, b] [] pos) (tI (sta X h) W Γ (iRange2 ma mb)) := impI (pi_range2 hg hm (pa_cons ha (pa_cons hb pa_nil hs2) (by rw [hs, hs2])) hs hs2) fun σ H R w => by
  obtain ⟨H0, G0, Hs, F, η, ok, p⟩ := w
  refine tE.use ok ((Post.bind p).imp fun d pd v H1 Hs1 st1 rd ok1 => ?_)
  refine tE.use ok1 (((Post.bind pd).up st1.all).imp fun e pe u H2 Hs2 st2 re ok2 => ?_)
  cases d <;> first | exact pe.elim | skip
  cases e <;> first | exact pe.elim | skip
  rename_i i j
  have pd' : Post (sta X h) W σ H (if (-lim62 ≤ i ∧ i < lim62) ∧ (-lim62 ≤ j ∧ j < lim62) then Res.ok (rangeD i (j - i).toNat) else .stuck) _ := pe
  split at pd'
  · rename_i hj
    unfold Rep at rd re
    rw [lim_eq] at hj
    exact ⟨i, j, by rw [rd, re], ⟨hj.1.1, hj.1.2, hj.2.1, hj.2.2⟩, pd' _ H2 Hs2 (st1.trans st2) walks_range⟩
  · exact pd'.elim
theorem walks_rev {S : Sta} {Hs : Hp} {l : Addr} {vs : List V} {ds : List D} (hl : Rd Hs l (.lst vs)) (r : Reps S Hs ds vs) : Walks S Hs (Itv S.K l vs.length) ds.reverse := fun i H' Hs' s1 s2 => by
  have q : SqL S.K H' l vs := .inl (rd_sub (s1.trans s2) hl)
  have hlen := r.length
  refine ⟨fun d hd => ?_, fun hn => ?_⟩
  · have hi : i < ds.length := by
      have := (List.getElem?_eq_some_iff.mp hd).1
      simpa using this
    rw [List.getElem?_reverse hi] at hd
    obtain ⟨v, h1, h2⟩ := r.get hd
    rw [← hlen] at h1
    refine ⟨⟨by omega, vs, v, q, h1⟩, fun x H'' y => ?_⟩
    obtain ⟨rfl, y⟩ := y
    have e := y vs q
    rw [h1] at e
    cases e
    exact ⟨Hs', Step.refl s2, h2.same s1⟩
  · have := List.getElem?_eq_none_iff.mp hn
    show vs.length ≤ i
    rw [hlen]
    simpa using this
theorem i_rev (hm : X.mg "reversed" = none) (ha : PE X a (tE (sta X h) W Γ ma na)) (hg : Gl X "reversed" := by rfl) (hs : starEach [a] X.env = [(false, eval a X.env)] := by rfl) : PI X tg (.Call (.Name "reversed" p) [a] [] pos) (tI (sta X h) W Γ (iRev ma)) := impI (pi_reversed hg hm (pa_cons ha pa_nil hs) hs) fun σ H R w => by
  obtain ⟨H0, G0, Hs, F, η, ok, p⟩ := w
  refine tE.use ok ((Post.bind p).imp fun d pd v H' Hs' st rd ok' => ?_)
  have pb := Post.bind pd
  unfold lstOf at pb
  split at pb
  · rename_i ds
    unfold Rep at rd
    obtain ⟨l, vs, rfl, r1, r2⟩ := rd
    exact ⟨l, vs, rfl, .inl (rd_sub ok'.sub r1), pb _ H' Hs' st (walks_rev r1 r2)⟩
  · exact pb.elim
theorem enumD_get : ∀ (xs : List D) (k i : Nat), (enumD k xs)[i]? = (xs[i]?).map fun x => D.tup [.int ((k + i : Nat) : Int), x]
  | [], k, i => by simp [enumD]
  | x :: xs, k, 0 => by simp [enumD]
  | x :: xs, k, i + 1 => by
    unfold enumD
    rw [List.getElem?_cons_succ, List.getElem?_cons_succ, enumD_get xs (k + 1) i]
    have e : k + 1 + i = k + (i + 1) := by omega
    rw [e]
theorem walks_enum {S : Sta} {Hs : Hp} {l : Addr} {vs : List V} {ds : List D} (hl : Rd Hs l (.lst vs)) (r : Reps S Hs ds vs) : Walks S Hs (Ite S.K l) (enumD 0 ds) := fun i H' Hs' s1 s2 => by
  have q : SqL S.K H' l vs := .inl (rd_sub (s1.trans s2) hl)
  refine ⟨fun d hd => ?_, fun hn => ?_⟩
  · rw [enumD_get] at hd
    obtain ⟨d0, hd0, rfl⟩ := Option.map_eq_some_iff.mp hd
    obtain ⟨v, h1, h2⟩ := r.get hd0
    refine ⟨⟨vs, v, q, h1⟩, fun x H'' y => ?_⟩
    obtain ⟨T, x0, rfl, hT, rfl, y⟩ := y
    have e := y vs q
    rw [h1] at e
    cases e
    rw [Nat.zero_add]
    exact ⟨_, Step.newS s2 hT, rep_newT s2 hT (Reps.cons_iff.mpr ⟨_, _, rfl, rep_int, Reps.one (h2.same s1)⟩)⟩
  · rw [enumD_get] at hn
    have e : ds[i]? = none := by
      cases q : ds[i]? with
      | none => rfl
      | some d => rw [q] at hn; cases hn
    exact ⟨vs, q, by rw [r.length]; exact List.getElem?_eq_none_iff.mp e⟩
theorem i_enum {elts : List Expr} {kk : Nat} {tpos : Pos} (hm : X.mg "enumerate" = none) (ha : PE X a (tE (sta X h) W Γ ma na)) (hg : Gl X "enumerate" := by rfl) (hs : starEach [a] X.env = [(false, eval a X.env)] := by rfl) : PI X (.Tuple elts kk tpos) (.Call (.Name "enumerate" p) [a] [] pos) (tI (sta X h) W Γ (iEnum ma)) := impI (pi_enum hg hm (pa_cons ha pa_nil hs) hs) fun σ H R w => by
  obtain ⟨H0, G0, Hs, F, η, ok, p⟩ := w
  refine tE.use ok ((Post.bind p).imp fun d pd v H' Hs' st rd ok' => ?_)
  have pb := Post.bind pd
  unfold lstOf at pb
  split at pb
  · rename_i ds
    unfold Rep at rd
    obtain ⟨l, vs, rfl, r1, r2⟩ := rd
    exact ⟨l, vs, rfl, .inl (rd_sub ok'.sub r1), pb _ H' Hs' st (walks_enum r1 r2)⟩
  · exact pb.elim
theorem zipD_get : ∀ (xs ys : List D) (i : Nat), (zipD xs ys)[i]? = (xs[i]?).bind fun x => (ys[i]?).map fun y => D.tup [x, y]
  | [], ys, i => by simp [zipD]
  | x :: xs, [], i => by cases i <;> simp [zipD]
  | x :: xs, y :: ys, 0 => by simp [zipD]
  | x :: xs, y :: ys, i + 1 => by
    unfold zipD
    rw [List.getElem?_cons_succ, List.getElem?_cons_succ, List.getElem?_cons_succ, zipD_get xs ys i]
theorem walks_zip {S : Sta} {Hs : Hp} {l l2 : Addr} {vs ws : List V} {ds es : List D} (hl : Rd Hs l (.lst vs)) (r : Reps S Hs ds vs) (hl2 : Rd Hs l2 (.lst ws)) (r2 : Reps S Hs es ws) : Walks S Hs (Itz S.K l l2) (zipD ds es) := fun i H' Hs' s1 s2 => by
  have q : SqL S.K H' l vs := .inl (rd_sub (s1.trans s2) hl)
  have q2 : SqL S.K H' l2 ws := .inl (rd_sub (s1.trans s2) hl2)
  refine ⟨fun d hd => ?_, fun hn => ?_⟩
  · rw [zipD_get] at hd
    obtain ⟨d0, hd0, hd⟩ := Option.bind_eq_some_iff.mp hd
    obtain ⟨e0, he0, rfl⟩ := Option.map_eq_some_iff.mp hd
    obtain ⟨v, h1, h2⟩ := r.get hd0
    obtain ⟨u, h3, h4⟩ := r2.get he0
    refine ⟨⟨vs, ws, v, u, q, q2, h1, h3⟩, fun x H'' y => ?_⟩
    obtain ⟨T, x0, y0, rfl, hT, rfl, y1, y2⟩ := y
    have e := y1 vs q
    rw [h1] at e
    cases e
    have e := y2 ws q2
    rw [h3] at e
    cases e
    exact ⟨_, Step.newS s2 hT, rep_newT s2 hT (Reps.cons_iff.mpr ⟨_, _, rfl, h2.same s1, Reps.one (h4.same s1)⟩)⟩
  · rw [zipD_get] at hn
    refine ⟨vs, ws, q, q2, ?_⟩
    rw [r.length, r2.length]
    cases e1 : ds[i]? with
    | none => exact .inl (List.getElem?_eq_none_iff.mp e1)
    | some d =>
      rw [e1] at hn
      have hn' : (es[i]?).map (fun y => D.tup [d, y]) = none := hn
      cases e2 : es[i]? with
      | none => exact .inr (List.getElem?_eq_none_iff.mp e2)
      | some d2 => rw [e2] at hn'; cases hn'
theorem i_zip {elts : List Expr} {kk : Nat} {tpos : Pos} (hm : X.mg "zip" = none) (ha : PE X a (tE (sta X h) W Γ ma na)) (hb : PE X b (tE (sta X h) W Γ mb nb)) (hg : Gl X "zip" := by rfl) (hs : starEach [a, b] X.env = (false, eval a X.env) :: starEach [b] X.env := by rfl) (hs2 : starEach [b] X.env = [(false, eval b X.env)] := by rfl) (hpl : (backTo pos (starEach [b] X.env)).any (·.1) = false := by rfl) :
    PI X (.Tuple elts kk tpos) (.Call (.Name "zip" p) [a, b] [] pos) (tI (sta X h) W Γ (iZip ma mb)) := impI (pi_zip hg hm (pa_cons ha (pa_cons hb pa_nil hs2) hs) hs hpl) fun σ H R w => by
  obtain ⟨H0, G0, Hs, F, η, ok, p⟩ := w
  refine tE.use ok ((Post.bind p).imp fun d pd v H1 Hs1 st1 rd ok1 => ?_)
  refine tE.use ok1 (((Post.bind pd).up st1.all).imp fun e pe u H2 Hs2 st2 re ok2 => ?_)
  have pb := Post.bind pe
  unfold lstOf at pb
  split at pb
  · rename_i ds
    have pc := Post.bind (show Post (sta X h) W σ H ((match e with | .lst xs => Res.ok xs | _ => .stuck).bind fun ys => Res.ok (zipD ds ys)) _ from pb)
    split at pc
    · rename_i es
      have rd' := rd.same st2.shr
      unfold Rep at rd' re
      obtain ⟨l, vs, rfl, r1, r2⟩ := rd'
      obtain ⟨l2, ws, rfl, r3, r4⟩ := re
      exact ⟨l, l2, vs, ws, rfl, .inl (rd_sub ok2.sub r1), .inl (rd_sub ok2.sub r3), pc _ H2 Hs2 (st1.trans st2) (walks_zip r1 r2 r3 r4)⟩
    · exact pc.elim
  · exact pb.elim
end
end VL
/-! VLStmt: what is bound, comprehensions, statements. -/
namespace VL
open PySem PySem.Spec L2
/-! ### slots set -/
theorem Owns.move {S : Sta} {H H' Hs Hs' : Hp} (e : Same Hs Hs') : ∀ (ds : List D) (n : Nat) (vs : List V) (F : List Addr), (∀ a ∈ F, H' a = H a) → Owns S H Hs ds n vs F → Owns S H' Hs' ds n vs F
  | [], n, vs, F, _, h => Owns.nil.mpr (Owns.nil.mp h)
  | d :: ds, n, vs, F, k, h => by
    obtain ⟨v, ws, F1, F2, rfl, rfl, h1, h2⟩ := Owns.cons.mp h
    exact Owns.cons.mpr ⟨v, ws, F1, F2, rfl, rfl, h1.move e d n v F1 (fun a ha => k a (List.mem_append_left _ ha)), Owns.move e ds n ws F2 (fun a ha => k a (List.mem_append_right _ ha)) h2⟩
section
variable {S : Sta} {H0 G0 H H1 Hs Hs1 : Hp} {Γ Γ2 : List Nat} {F : Nat → List Addr} {σ : L2.St} {η : Env} {Fr : List Addr}
theorem EOk.cong (ok : EOk S H0 G0 H Hs Γ F σ η) (e : ∀ i, Γ2.getD i 0 = Γ.getD i 0) : EOk S H0 G0 H Hs Γ2 F σ η :=
  ⟨ok.st, ok.len, fun i d h => by rw [e]; exact ok.slot i d h, ok.hid, ok.disj, ok.nd, ok.hot⟩
theorem getD_set {l : List Nat} {i j n : Nat} : (l.set i n).getD j 0 = if i = j ∧ i < l.length then n else l.getD j 0 := by
  simp only [List.getD_eq_getElem?_getD, List.getElem?_set]
  by_cases e : i = j
  · subst e
    by_cases h : i < l.length
    · simp [h]
    · simp [h]
  · simp [e]
theorem EOk.set {i n : Nat} {d : D} {v : V} (ok : EOk S H0 G0 H Hs Γ F σ η) (hot : S.hot = none) (o : Own S H Hs d n v Fr) (hi : i < Γ.length ∨ (n = 0 ∧ Γ.getD i 0 = 0)) (fr : ∀ a ∈ Fr, Hs a = none ∧ H0 a = none ∧ (∃ o, H a = some o)) (dj : ∀ j a, j ≠ i → a ∈ F j → a ∉ Fr) (nd : Fr.Nodup) :
    EOk S H0 G0 H Hs (Γ.set i n) (fun j => if j = i then Fr else F j) (σ.set i (some v)) (η.set i (some d)) where
  st := ok.st
  len := by rw [List.length_set, List.length_set, ok.len]
  slot := fun j e he => by
    rw [List.getElem?_set] at he ⊢
    rw [getD_set]
    by_cases hj : i = j
    · subst hj
      simp only [if_true] at he ⊢
      have hl : i < η.length := by
        by_cases hl : i < η.length
        · exact hl
        · rw [if_neg hl] at he; cases he
      rw [if_pos hl] at he
      rw [if_pos (by rw [ok.len]; exact hl)]
      have e1 : d = e := by simpa using he
      subst e1
      refine ⟨v, rfl, ?_⟩
      rcases hi with hi | ⟨hi, hg⟩
      · simp only [hi, and_self, if_true]; exact o
      · subst hi
        by_cases hl2 : i < Γ.length
        · simp only [hl2, and_self, if_true]; exact o
        · simp only [hl2, and_false, if_false]; rw [hg]; exact o
    · simp only [hj, if_false, false_and] at he ⊢
      obtain ⟨w, h1, h2⟩ := ok.slot j e he
      refine ⟨w, h1, ?_⟩
      rw [if_neg (Ne.symm hj)]
      exact h2
  hid := fun j a ha => by
    by_cases hj : j = i
    · subst hj
      rw [if_pos rfl] at ha
      exact fr a ha
    · rw [if_neg hj] at ha; exact ok.hid j a ha
  disj := fun j k a h1 h2 => by
    by_cases hj : j = i
    · by_cases hk : k = i
      · rw [hj, hk]
      · rw [if_pos hj] at h1
        rw [if_neg hk] at h2
        exact absurd h1 (dj k a hk h2)
    · by_cases hk : k = i
      · rw [if_neg hj] at h1
        rw [if_pos hk] at h2
        exact absurd h2 (dj j a hj h1)
      · rw [if_neg hj] at h1
        rw [if_neg hk] at h2
        exact ok.disj j k a h1 h2
  nd := fun j => by
    by_cases hj : j = i
    · simp only [hj, if_true]; exact nd
    · simp only [hj, if_false]; exact ok.nd j
  hot := fun j a e h => by rw [hot] at h; cases h
/-- an evaluated value is bound -/
theorem EOk.bind {i n : Nat} {d : D} {v : V} (ok : EOk S H0 G0 H Hs Γ F σ η) (hot : S.hot = none) (st : Step H Hs H1 Hs1 Fr) (o : Own S H1 Hs1 d n v Fr) (hi : i < Γ.length ∨ (n = 0 ∧ Γ.getD i 0 = 0)) :
    EOk S H0 G0 H1 Hs1 (Γ.set i n) (fun j => if j = i then Fr else F j) (σ.set i (some v)) (η.set i (some d)) :=
  (ok.step st).set hot o hi (fun a ha => ⟨(st.fr a ha).2, ok.st.all.free (st.fr a ha).1, o.there d n v Fr a ha⟩) (fun j a _ h1 h2 => by
    obtain ⟨_, _, o, ho⟩ := ok.hid j a h1
    rw [(st.fr a h2).1] at ho
    cases ho) st.nd
theorem EOk.setH {i n : Nat} {d : D} {v : V} (ok : EOk S H0 G0 H Hs Γ F σ η) (hot : ∀ j a e, S.hot = some (j, a, e) → j ≠ i) (o : Own S H Hs d n v Fr) (hi : i < Γ.length ∨ (n = 0 ∧ Γ.getD i 0 = 0)) (fr : ∀ a ∈ Fr, Hs a = none ∧ H0 a = none ∧ (∃ o, H a = some o)) (dj : ∀ j a, j ≠ i → a ∈ F j → a ∉ Fr) (nd : Fr.Nodup) :
    EOk S H0 G0 H Hs (Γ.set i n) (fun j => if j = i then Fr else F j) (σ.set i (some v)) (η.set i (some d)) where
  st := ok.st
  len := by rw [List.length_set, List.length_set, ok.len]
  slot := fun j e he => by
    rw [List.getElem?_set] at he ⊢
    rw [getD_set]
    by_cases hj : i = j
    · subst hj
      simp only [if_true] at he ⊢
      have hl : i < η.length := by
        by_cases hl : i < η.length
        · exact hl
        · rw [if_neg hl] at he; cases he
      rw [if_pos hl] at he
      rw [if_pos (by rw [ok.len]; exact hl)]
      have e1 : d = e := by simpa using he
      subst e1
      refine ⟨v, rfl, ?_⟩
      rcases hi with hi | ⟨hi, hg⟩
      · simp only [hi, and_self, if_true]; exact o
      · subst hi
        by_cases hl2 : i < Γ.length
        · simp only [hl2, and_self, if_true]; exact o
        · simp only [hl2, and_false, if_false]; rw [hg]; exact o
    · simp only [hj, if_false, false_and] at he ⊢
      obtain ⟨w, h1, h2⟩ := ok.slot j e he
      refine ⟨w, h1, ?_⟩
      rw [if_neg (Ne.symm hj)]
      exact h2
  hid := fun j a ha => by
    by_cases hj : j = i
    · subst hj
      rw [if_pos rfl] at ha
      exact fr a ha
    · rw [if_neg hj] at ha; exact ok.hid j a ha
  disj := fun j k a h1 h2 => by
    by_cases hj : j = i
    · by_cases hk : k = i
      · rw [hj, hk]
      · rw [if_pos hj] at h1
        rw [if_neg hk] at h2
        exact absurd h1 (dj k a hk h2)
    · by_cases hk : k = i
      · rw [if_neg hj] at h1
        rw [if_pos hk] at h2
        exact absurd h2 (dj j a hj h1)
      · rw [if_neg hj] at h1
        rw [if_neg hk] at h2
        exact ok.disj j k a h1 h2
  nd := fun j => by
    by_cases hj : j = i
    · simp only [hj, if_true]; exact nd
    · simp only [hj, if_false]; exact ok.nd j
  hot := fun j a e h => by
    have z := hot j a e h
    rw [List.getElem?_set_ne (Ne.symm z)]
    exact ok.hot j a e h
/-- an evaluated value is bound -/
theorem EOk.bindH {i n : Nat} {d : D} {v : V} (ok : EOk S H0 G0 H Hs Γ F σ η) (hot : ∀ j a e, S.hot = some (j, a, e) → j ≠ i) (st : Step H Hs H1 Hs1 Fr) (o : Own S H1 Hs1 d n v Fr) (hi : i < Γ.length ∨ (n = 0 ∧ Γ.getD i 0 = 0)) :
    EOk S H0 G0 H1 Hs1 (Γ.set i n) (fun j => if j = i then Fr else F j) (σ.set i (some v)) (η.set i (some d)) :=
  (ok.step st).setH hot o hi (fun a ha => ⟨(st.fr a ha).2, ok.st.all.free (st.fr a ha).1, o.there d n v Fr a ha⟩) (fun j a _ h1 h2 => by
    obtain ⟨_, _, o, ho⟩ := ok.hid j a h1
    rw [(st.fr a h2).1] at ho
    cases ho) st.nd
def coolAt (h : Option (Nat × Addr × Er)) (i : Nat) : Bool := match h with
  | none => true
  | some q => !(q.1 == i)
theorem coolAt_of {h : Option (Nat × Addr × Er)} {i : Nat} (e : coolAt h i = true) : ∀ (j : Nat) (a : Addr) (er : Er), h = some (j, a, er) → j ≠ i := fun j a er q => by
  subst q
  have z : (!(j == i)) = true := e
  simpa using z
/-- a slot is forgotten -/
theorem EOk.gone {i : Nat} (ok : EOk S H0 G0 H Hs Γ F σ η) (hot : S.hot = none) : EOk S H0 G0 H Hs Γ F (σ.set i none) (η.set i none) where
  st := ok.st
  len := by rw [List.length_set, List.length_set, ok.len]
  slot := fun j e he => by
    rw [List.getElem?_set] at he ⊢
    by_cases hj : i = j
    · subst hj
      simp only [if_true] at he
      split at he <;> cases he
    · simp only [hj, if_false] at he ⊢
      exact ok.slot j e he
  hid := ok.hid
  disj := ok.disj
  nd := ok.nd
  hot := fun j a e h => by rw [hot] at h; cases h
theorem EOk.goneH {i : Nat} (ok : EOk S H0 G0 H Hs Γ F σ η) (hot : ∀ j a e, S.hot = some (j, a, e) → j ≠ i) : EOk S H0 G0 H Hs Γ F (σ.set i none) (η.set i none) where
  st := ok.st
  len := by rw [List.length_set, List.length_set, ok.len]
  slot := fun j e he => by
    rw [List.getElem?_set] at he ⊢
    by_cases hj : i = j
    · subst hj
      simp only [if_true] at he
      split at he <;> cases he
    · simp only [hj, if_false] at he ⊢
      exact ok.slot j e he
  hid := ok.hid
  disj := ok.disj
  nd := ok.nd
  hot := fun j a e h => by
    have z := hot j a e h
    rw [List.getElem?_set_ne (Ne.symm z)]
    exact ok.hot j a e h
theorem EOk.wipe (ok : EOk S H0 G0 H Hs Γ F σ η) : ∀ vs : List Nat, vs.all (coolAt S.hot) = true → EOk S H0 G0 H Hs Γ F (wipe σ vs) (wipeE η vs)
  | [], _ => ok
  | v :: vs, hot => by
    rw [List.all_cons, Bool.and_eq_true] at hot
    exact (EOk.wipe ok vs hot.2).goneH (coolAt_of hot.1)
end
theorem wipe_get (σ : L2.St) : ∀ (vs : List Nat) (i : Nat), (wipe σ vs)[i]? = if i ∈ vs ∧ i < σ.length then some none else σ[i]?
  | [], i => by simp [wipe]
  | v :: vs, i => by
    unfold wipe
    rw [List.getElem?_set, wipe_length, wipe_get σ vs i]
    by_cases e : v = i
    · subst e
      by_cases h : v < σ.length <;> simp [h]
    · have e' : ¬ i = v := fun q => e q.symm
      simp [e, e']
theorem wipe_same {σ σ' : L2.St} {vs : List Nat} (hl : σ'.length = σ.length) (h : ∀ j, j ∉ vs → σ'[j]? = (wipe σ vs)[j]?) : wipe σ' vs = wipe σ vs := by
  apply List.ext_getElem?
  intro i
  rw [wipe_get, wipe_get]
  by_cases hi : i ∈ vs
  · by_cases hlt : i < σ.length
    · simp [hi, hlt, hl]
    · have h1 : ¬ i < σ'.length := by rw [hl]; exact hlt
      rw [if_neg (fun q => h1 q.2), if_neg (fun q => hlt q.2), List.getElem?_eq_none (by omega), List.getElem?_eq_none (by omega)]
  · rw [if_neg (fun q => hi q.1), if_neg (fun q => hi q.1), h i hi, wipe_get, if_neg (fun q => hi q.1)]
theorem wipe_wipe (σ : L2.St) (vs : List Nat) : wipe (wipe σ vs) vs = wipe σ vs := by
  apply List.ext_getElem?
  intro i
  rw [wipe_get, wipe_get, wipe_length]
  by_cases h : i ∈ vs ∧ i < σ.length
  · rw [if_pos h]
    simp [h]
  · rw [if_neg h]
/-! ### targets -/
def gB (S : Sta) (Γ : List Nat) (b : Bd) (sl : List Nat) : TG := fun v σ H Q => ∃ (H0 G0 Hs : Hp) (F : Nat → List Addr) (η : Env) (d : D), EOk S H0 G0 H Hs Γ F σ η ∧ Rep S Hs d v ∧
  ∃ η1, b d η = some η1 ∧ ∀ (σ1 : L2.St) (F1 : Nat → List Addr), EOk S H0 G0 H Hs Γ F1 σ1 η1 → (∀ j, j ∉ sl → σ1[j]? = σ[j]?) → σ1.length = σ.length → Q σ1 H
def gBs (S : Sta) (Γ : List Nat) (b : List D → Env → Option Env) (sl : List Nat) : TGs := fun vs σ H Q => ∃ (H0 G0 Hs : Hp) (F : Nat → List Addr) (η : Env) (ds : List D), EOk S H0 G0 H Hs Γ F σ η ∧ Reps S Hs ds vs ∧
  ∃ η1, b ds η = some η1 ∧ ∀ (σ1 : L2.St) (F1 : Nat → List Addr), EOk S H0 G0 H Hs Γ F1 σ1 η1 → (∀ j, j ∉ sl → σ1[j]? = σ[j]?) → σ1.length = σ.length → Q σ1 H
theorem set_zero {Γ : List Nat} {i : Nat} (h : Γ.getD i 0 = 0) : ∀ j, (Γ.set i 0).getD j 0 = Γ.getD j 0 := fun j => by
  rw [getD_set]
  split
  · rename_i q; rw [← q.1, h]
  · rfl
section
variable {X : Cx} {W : WX} {Γ : List Nat} {h : Option (Nat × Addr × Er)} {tg e elt iter : Expr} {es ts ifs : List Expr} {n k : Nat} {pos p : Pos} {x : Str} {b : Bd} {r : List D → Env → Option Env} {sl sl2 : List Nat}
theorem impG {t t' : TG} (h : PG X tg t) (i : ∀ v σ H Q, t' v σ H Q → t v σ H Q) : PG X tg t' := ⟨fun pins s σ H v u Q I rv w => h.run pins s σ H v u Q I rv (i v σ H Q w)⟩
theorem impGs {t t' : TGs} (h : PGs X ts t) (i : ∀ v σ H Q, t' v σ H Q → t v σ H Q) : PGs X ts t' := ⟨fun pins s σ H v u Q I rv w => h.run pins s σ H v u Q I rv (i v σ H Q w)⟩
theorem g_name (i : Nat) (hN : X.N.Nodup) (hi : X.N[i]? = some x := by rfl) (hg : Γ.getD i 0 = 0 := by rfl) (hx : Loc X.env.scope x := by first | exact Or.inl rfl | exact Or.inr rfl) (hf : X.fn x = true ∨ X.env.scope.names.lookup x = some .local := by first | exact .inl rfl | exact .inr rfl | assumption) (hh : coolAt h i = true := by rfl) :
    PG X (.Name x pos) (gB (sta X h) Γ (bName i) [i]) := impG (pg_name hN hi hx hf) fun v σ H Q w => by
  obtain ⟨H0, G0, Hs, F, η, d, ok, rd, η1, e1, kk⟩ := w
  unfold bName at e1
  split at e1
  · cases e1
    refine kk _ _ (((ok.bindH (coolAt_of hh) (Step.refl ok.sub) rd.own (.inr ⟨rfl, hg⟩))).cong fun j => (set_zero hg j).symm) (fun j hj => ?_) (by rw [List.length_set])
    rw [List.getElem?_set_ne (fun q => hj (by simp [q]))]
  · cases e1
theorem gs_nil : PGs X [] (gBs (sta X h) Γ bNil []) := impGs pgs_nil fun vs σ H Q w => by
  obtain ⟨H0, G0, Hs, F, η, ds, ok, rd, η1, e1, kk⟩ := w
  cases ds with
  | nil =>
    cases e1
    exact ⟨Reps.nil_iff.mp rd, kk σ F ok (fun _ _ => rfl) rfl⟩
  | cons d ds => cases e1
theorem gs_cons (h1 : PG X e (gB (sta X h) Γ b sl)) (h2 : PGs X es (gBs (sta X h) Γ r sl2)) (hst : (assignEach (e :: es) X.env).map (·.2) = assign e X.env :: (assignEach es X.env).map (·.2) := by rfl) : PGs X (e :: es) (gBs (sta X h) Γ (bCons b r) (sl ++ sl2)) := impGs (pgs_cons h1 h2 hst) fun vs σ H Q w => by
  obtain ⟨H0, G0, Hs, F, η, ds, ok, rd, η1, e1, kk⟩ := w
  cases ds with
  | nil => cases e1
  | cons d ds =>
    obtain ⟨v, ws, rfl, r1, r2⟩ := Reps.cons_iff.mp rd
    obtain ⟨η2, e2, e3⟩ := Option.bind_eq_some_iff.mp (show (b d η).bind (r ds) = some η1 from e1)
    refine ⟨v, ws, rfl, H0, G0, Hs, F, η, d, ok, r1, η2, e2, fun σ1 F1 ok1 hs1 hl1 => ?_⟩
    exact ⟨H0, G0, Hs, F1, η2, ds, ok1, r2, η1, e3, fun σ2 F2 ok2 hs2 hl2 => kk σ2 F2 ok2 (fun j hj => by
      rw [List.mem_append] at hj
      rw [hs2 j (fun q => hj (.inr q)), hs1 j (fun q => hj (.inl q))]) (hl2.trans hl1)⟩
theorem bl_nil : ∀ (ds : List D) (η η1 : Env), bNil ds η = some η1 → ds.length = 0 := fun ds η η1 h => by
  cases ds with
  | nil => rfl
  | cons d ds => cases h
theorem bl_cons {k : Nat} (h : ∀ (ds : List D) (η η1 : Env), r ds η = some η1 → ds.length = k) : ∀ (ds : List D) (η η1 : Env), bCons b r ds η = some η1 → ds.length = k + 1 := fun ds η η1 e => by
  cases ds with
  | nil => cases e
  | cons d ds =>
    obtain ⟨η2, e2, e3⟩ := Option.bind_eq_some_iff.mp (show (b d η).bind (r ds) = some η1 from e)
    rw [List.length_cons, h ds η2 η1 e3]
theorem orG {t1 t2 : TG} (h1 : PG X tg t1) (h2 : PG X tg t2) : PG X tg (fun v σ H Q => t1 v σ H Q ∨ t2 v σ H Q) := ⟨fun pins s σ H v u Q I rv w => by
  rcases w with w | w
  · exact h1.run pins s σ H v u Q I rv w
  · exact h2.run pins s σ H v u Q I rv w⟩
theorem g_tup {j : Nat} (hc : X.calm = true) (hg : PGs X es (gBs (sta X h) Γ r sl)) (hl : ∀ (ds : List D) (η η1 : Env), r ds η = some η1 → ds.length = n) (hn : (assignEach es X.env).length = n := by rfl) (hst : (assignEach es X.env).findIdx? (·.1) = none := by rfl) :
    PG X (.Tuple es j pos) (gB (sta X h) Γ (bTup r) sl) := impG (orG (pg_tup hc hg hn hst) (pg_lst hc hg hn hst)) fun v σ H Q w => by
  obtain ⟨H0, G0, Hs, F, η, d, ok, rd, η1, e1, kk⟩ := w
  cases d <;> first | (cases e1; done) | skip
  · rename_i ds
    unfold Rep at rd
    obtain ⟨a, vs, rfl, r1, r2⟩ := rd
    exact .inr ⟨a, vs, rfl, .inl (rd_sub ok.sub r1), by rw [r2.length]; exact hl ds η η1 e1, H0, G0, Hs, F, η, ds, ok, r2, η1, e1, kk⟩
  · rename_i ds
    unfold Rep at rd
    obtain ⟨a, vs, rfl, r1, r2⟩ := rd
    exact .inl ⟨a, vs, rfl, sqt_sub ok.sub r1, by rw [r2.length]; exact hl ds η η1 e1, H0, G0, Hs, F, η, ds, ok, r2, η1, e1, kk⟩
end
end VL
/-! VLComp: comprehensions. -/
namespace VL
open PySem PySem.Spec L2
abbrev W0 : WX := fun _ _ _ _ => False
/-- new objects behind a step: the list at P is changed -/
theorem Step.grow {H Hs H1 Hs1 : Hp} {P : Addr} {G Fr : List Addr} {o o' : HO} {H2 Hs2 : Hp} (a : Step H Hs H1 Hs1 (P :: G)) (hP : H1 P = some o) (hG : ∀ x ∈ G, ∃ u, H1 x = some u) (b : Step H1 Hs1 H2 Hs2 Fr) : Step H Hs (upd H2 P o') Hs2 (P :: (G ++ Fr)) where
  all := fun x u e => by
    rw [upd_ne (ne_of_none e (a.fr P List.mem_cons_self).1)]
    exact b.all x u (a.all x u e)
  shr := a.shr.trans b.shr
  sub := fun x u e => by
    have n : x ≠ P := fun q => by
      rw [q, b.new P (a.fr P List.mem_cons_self).2 ⟨o, hP⟩] at e; cases e
    rw [upd_ne n]; exact b.sub x u e
  new := fun x h1 ⟨u, h2⟩ => b.new x (a.new x h1 ⟨u, h2⟩) ⟨u, a.all x u h2⟩
  fr := fun x hx => by
    rcases List.mem_cons.mp hx with e | hx
    · rw [e]; exact ⟨(a.fr P List.mem_cons_self).1, b.new P (a.fr P List.mem_cons_self).2 ⟨o, hP⟩⟩
    · rcases List.mem_append.mp hx with hx | hx
      · exact ⟨(a.fr x (List.mem_cons_of_mem _ hx)).1, b.new x (a.fr x (List.mem_cons_of_mem _ hx)).2 (hG x hx)⟩
      · exact ⟨a.all.free (b.fr x hx).1, (b.fr x hx).2⟩
  nd := by
    have h1 := List.nodup_cons.mp a.nd
    refine List.nodup_cons.mpr ⟨fun hx => ?_, List.nodup_append.mpr ⟨h1.2, b.nd, fun x hx y hy e => ?_⟩⟩
    · rcases List.mem_append.mp hx with hx | hx
      · exact h1.1 hx
      · rw [(b.fr P hx).1] at hP; cases hP
    · subst e
      obtain ⟨u, hu⟩ := hG x hx
      rw [(b.fr x hy).1] at hu; cases hu
theorem Owns.there {S : Sta} {H Hs : Hp} : ∀ {ds : List D} {n : Nat} {vs : List V} {F : List Addr}, Owns S H Hs ds n vs F → ∀ a ∈ F, ∃ o, H a = some o
  | [], n, vs, F, h, a, ha => by rw [(Owns.nil.mp h).2] at ha; cases ha
  | d :: ds, n, vs, F, h, a, ha => by
    obtain ⟨v, ws, F1, F2, rfl, rfl, h1, h2⟩ := Owns.cons.mp h
    rcases List.mem_append.mp ha with ha | ha
    · exact h1.there d n v F1 a ha
    · exact Owns.there h2 a ha
/-- the state in a comprehension: the list at P holds acc -/
structure CpOk (S : Sta) (H Hs : Hp) (P : Addr) (ne : Nat) (acc : List D) (H' Hs' : Hp) (vs : List V) (G : List Addr) : Prop where
  st : Step H Hs H' Hs' (P :: G)
  at_ : H' P = some (.lst vs)
  own : Owns S H' Hs' acc ne vs G
section
variable {X : Cx} {W : WX} {Γ : List Nat} {tg elt iter : Expr} {ifs : List Expr} {mi : M (List D)} {b : Bd} {q : M Bool} {me : M D} {ne i : Nat} {own sl : List Nat} {pos spos py : Pos} {S : Sta} {σ : L2.St} {H : Hp} {Q : VK}
theorem compGo_stuck {η : Env} {xs acc : List D} : compGo b q me η xs acc ≠ .stuck → ∃ ds, compGo b q me η xs acc = .ok ds := by
  intro h
  cases e : compGo b q me η xs acc with
  | ok ds => exact ⟨ds, rfl⟩
  | stuck => exact absurd e h
  | exc er =>
    exfalso
    revert e
    clear h
    induction xs generalizing acc with
    | nil => intro e; cases e
    | cons x xs ih =>
      intro e
      unfold compGo at e
      split at e
      · split at e
        · split at e
          · split at e
            · exact ih e
            · cases e
          · cases e
        · exact ih e
        · cases e
      · cases e
theorem lc_of (hot : own.all (coolAt S.hot) = true) (hsl : ∀ j ∈ sl, j ∈ own) (w : tE S W Γ (dComp mi b q me own) (ne + 1) σ H Q) : tLc (tI S W Γ mi) (gB S Γ b sl) (tQ S W0 Γ q) (tE S W0 Γ me ne) own σ H Q := by
  obtain ⟨H0, G0, Hs, F, η, ok, p⟩ := w
  refine ⟨H0, G0, Hs, F, η, ok, (Post.bind p).imp fun xs px J H1 Hs1 st1 wk P hP => ?_⟩
  have pb := Post.bind px
  have ok1 := ok.step st1
  obtain ⟨dsF, hF⟩ : ∃ ds, compGo b q me (wipeE η own) xs [] = .ok ds := compGo_stuck fun e => by rw [e] at pb; exact pb
  rw [hF] at pb
  have fin : ∀ (v : V) (H' Hs' : Hp) (Fr : List Addr), Step H Hs H' Hs' Fr → Own S H' Hs' (.lst dsF) (ne + 1) v Fr → Q v H' := pb
  refine ⟨fun i m H' => m = xs.length - i ∧ i ≤ xs.length ∧ ∃ (Hs' : Hp) (acc : List D) (vs : List V) (G : List Addr), CpOk S H1 Hs1 P ne acc H' Hs' vs G ∧ compGo b q me (wipeE η own) (xs.drop i) acc = .ok dsF, ⟨xs.length, rfl, Nat.zero_le _, Hs1, [], [], [], ⟨Step.newO ok1.sub hP, upd_same, Owns.nil.mpr ⟨rfl, rfl⟩⟩, hF⟩, ?_⟩
  rintro i m H' ⟨rfl, hi, Hs', acc, vs, G, cp, go⟩
  obtain ⟨wk1, wk2⟩ := wk i H' Hs' cp.st.shr cp.st.sub
  by_cases hlt : i < xs.length
  · right
    have hx : xs[i]? = some xs[i] := List.getElem?_eq_getElem hlt
    obtain ⟨g1, g2⟩ := wk1 _ hx
    have hdrop : xs.drop i = xs[i] :: xs.drop (i + 1) := List.drop_eq_getElem_cons hlt
    rw [hdrop] at go
    unfold compGo at go
    have okc := ok1.step cp.st
    refine ⟨g1, fun H2 => ∃ (Hs2 : Hp) (acc : List D) (vs : List V) (G : List Addr), CpOk S H1 Hs1 P ne acc H2 Hs2 vs G ∧ compGo b q me (wipeE η own) (xs.drop (i + 1)) acc = .ok dsF, fun H2 h2 => ⟨xs.length - (i + 1), by omega, rfl, hlt, h2⟩, fun x H2 yl => ?_⟩
    obtain ⟨Hs2, st2, rx⟩ := g2 x H2 yl
    split at go
    · rename_i η1 hb
      have okw := (okc.step st2).wipe own hot
      refine ⟨H0, G0, Hs2, F, wipeE η own, xs[i], okw, rx, η1, hb, fun σ2 F1 ok2 hs2 hl2 => ?_⟩
      refine ⟨?_, H0, G0, Hs2, F1, η1, ok2, ?_⟩
      · have e1 := wipe_same (σ := wipe σ own) (σ' := σ2) (vs := own) hl2 fun j hj => by
          rw [hs2 j (fun z => hj (hsl j z)), wipe_wipe]
        rw [e1, wipe_wipe]
      · have stp : Step H1 Hs1 H2 Hs2 (P :: G) → True := fun _ => trivial
        split at go
        · rename_i hq
          rw [hq]
          refine fun H3 Hs3 st3 => ?_
          dsimp only
          rw [if_pos rfl]
          split at go
          · rename_i d he
            split at go
            · rename_i hlen
              refine ⟨H0, G0, Hs3, F1, η1, ok2.step st3, ?_⟩
              rw [he]
              refine fun v H4 Hs4 Fr4 st4 o4 => ?_
              have s24 := (st2.trans st3).trans st4
              have hP4 : H4 P = some (.lst vs) := s24.all P _ cp.at_
              refine ⟨vs, hP4, by rw [cp.own.length, ← line_eq]; exact hlen, Hs4, acc ++ [d], vs ++ [v], G ++ Fr4, ⟨?_, upd_same, ?_⟩, go⟩
              · exact Step.grow cp.st cp.at_ cp.own.there s24
              · have nP : ∀ a ∈ G ++ Fr4, (upd H4 P (.lst (vs ++ [v]))) a = H4 a := fun a ha => upd_ne fun e => by
                  subst e
                  rcases List.mem_append.mp ha with ha | ha
                  · exact (List.nodup_cons.mp cp.st.nd).1 ha
                  · have z := (s24.fr a ha).1
                    rw [cp.at_] at z; cases z
                have o1 : Owns S H4 Hs4 acc ne vs G := cp.own.move s24.shr acc ne vs G fun a ha => by
                  obtain ⟨u, hu⟩ := cp.own.there a ha
                  rw [hu, s24.all a u hu]
                exact (o1.append (Owns.one o4)).move (Same.refl _) _ _ _ _ nP
            · cases go
          · cases go
        · rename_i hq
          rw [hq]
          refine fun H3 Hs3 st3 => ?_
          dsimp only
          rw [if_neg Bool.false_ne_true]
          have s23 := st2.trans st3
          refine ⟨Hs3, acc, vs, G, ⟨?_, s23.all P _ cp.at_, cp.own.move s23.shr acc ne vs G fun a ha => by
            obtain ⟨u, hu⟩ := cp.own.there a ha
            rw [hu, s23.all a u hu]⟩, go⟩
          refine ⟨cp.st.all.trans s23.all, cp.st.shr.trans s23.shr, s23.sub, fun a h1 ⟨u, h2⟩ => s23.new a (cp.st.new a h1 ⟨u, h2⟩) ⟨u, cp.st.all a u h2⟩, fun a ha => ⟨(cp.st.fr a ha).1, s23.new a (cp.st.fr a ha).2 ?_⟩, cp.st.nd⟩
          rcases List.mem_cons.mp ha with e | ha
          · rw [e]; exact ⟨_, cp.at_⟩
          · exact cp.own.there a ha
        · cases go
    · cases go
  · left
    have e : i = xs.length := by omega
    subst e
    refine ⟨wk2 (List.getElem?_eq_none (Nat.le_refl _)), ?_⟩
    rw [List.drop_length] at go
    unfold compGo at go
    cases go
    exact fin _ H' Hs' (P :: G) (st1.trans cp.st) (Own.succ.mpr ⟨P, vs, G, rfl, rfl, cp.at_, cp.own⟩)
theorem t_nil {S : Sta} {W : WX} : PTs X [] (tQ S W Γ qYes) := ⟨fun pins s σ H Q I w => by
  obtain ⟨H0, G0, Hs, F, η, ok, p⟩ := w
  exact pts_nil.run pins s σ H Q I (p H Hs (Step.refl ok.sub))⟩
theorem t_one {c : Expr} {S : Sta} {W : WX} (h : PT X c (tQ S W Γ q)) : PTs X [c] (tQ S W Γ q) := pts_one h
theorem e_comp {h : Option (Nat × Addr × Er)} {scope : Scope} {own : List (Str × Nat)} (hc : X.calm = true) (hN : X.N.Nodup) (hi : PI X tg iter (tI (sta X h) W Γ mi)) (okB : BlkOk X.N X.env.scope scope own) (hsl : ∀ j ∈ sl, j ∈ own.map (·.2))
    (hg : ∀ (s : Shared) (H : Hp) (C : Addr) (cl : List (Str × Addr)) (fp : List Addr), PG (X.blk s H scope (compEnvC scope cl C X.env) fp) tg (gB (sta X h) Γ b sl)) (ht : ∀ (s : Shared) (H : Hp) (C : Addr) (cl : List (Str × Addr)) (fp : List Addr), PTs (X.blk s H scope (compEnvC scope cl C X.env) fp) ifs (tQ (sta X h) W0 Γ q))
    (he : ∀ (s : Shared) (H : Hp) (C : Addr) (cl : List (Str × Addr)) (fp : List Addr), PE (X.blk s H scope (compEnvC scope cl C X.env) fp) elt (tE (sta X h) W0 Γ me ne)) (hs : ∀ x, foldedSetIterable iter X.env x = pure x := by intro _; rfl) (hh : (own.map (·.2)).all (coolAt h) = true := by rfl) :
    PE X (.ListComp elt [⟨tg, iter, ifs, 0⟩] scope pos) (tE (sta X h) W Γ (dComp mi b q me (own.map (·.2))) (ne + 1)) := impE (pe_lc hc hN hi okB hg ht he hs) fun σ H Q w => lc_of hh hsl w
end
end VL
/-! VLSt: statements. -/
namespace VL
open PySem PySem.Spec L2
structure Ct where
  S : Sta
  W : WX
  nr : Nat
  Γb : List Nat
  Γc : List Nat
def PostS (c : Ct) (H0 G0 : Hp) (Γ' : List Nat) (r : Fl) (D : Ends) : Prop := match r with
  | .nx η' => ∀ (σ' : L2.St) (H' Hs' : Hp) (F' : Nat → List Addr), EOk c.S H0 G0 H' Hs' Γ' F' σ' η' → D.nx σ' H'
  | .rt d => ∀ (v : V) (H' Hs' : Hp) (Fr : List Addr), Step H0 G0 H' Hs' Fr → Own c.S H' Hs' d c.nr v Fr → D.rt v H'
  | .bk η' => ∀ (σ' : L2.St) (H' Hs' : Hp) (F' : Nat → List Addr), EOk c.S H0 G0 H' Hs' c.Γb F' σ' η' → D.bk σ' H'
  | .ct η' => ∀ (σ' : L2.St) (H' Hs' : Hp) (F' : Nat → List Addr), EOk c.S H0 G0 H' Hs' c.Γc F' σ' η' → D.ct σ' H'
  | .ex e η' => ∀ (cls : Value) (dd : Option Addr) (σ' : L2.St) (H' Hs' : Hp) (F' : Nat → List Addr), clsIs c.S e cls dd → EOk c.S H0 G0 H' Hs' [] F' σ' η' → c.W cls dd σ' H'
  | .stuck => False
def tS (c : Ct) (Γ : List Nat) (m : Env → Fl) (Γ' : List Nat) : TS := fun D σ H => ∃ (H0 G0 Hs : Hp) (F : Nat → List Addr) (η : Env), EOk c.S H0 G0 H Hs Γ F σ η ∧ PostS c H0 G0 Γ' (m η) D
section
variable {c : Ct} {H0 G0 H Hs : Hp} {Γ Γ' : List Nat} {F : Nat → List Addr} {σ : L2.St} {η : Env}
theorem EOk.cold (ok : EOk c.S H0 G0 H Hs Γ F σ η) : ∃ Hs' F', EOk c.S H0 G0 H Hs' [] F' σ η ∧ Same Hs Hs' := by
  obtain ⟨Hs', F', h1, h2, _⟩ := ok.froz fun _ => false
  refine ⟨Hs', F', h1.cong fun i => ?_, h2⟩
  by_cases hi : i < Γ.length <;> simp [List.getD, hi]
/-- an expression's end in a statement -/
theorem onRes_post {α : Type} {r : Res α} {k : α → Fl} {D : Ends} (ok : EOk c.S H0 G0 H Hs Γ F σ η) (p : PostS c H0 G0 Γ' (onRes r η k) D) : Post c.S c.W σ H r fun a => PostS c H0 G0 Γ' (k a) D := by
  cases r with
  | ok a => exact p
  | exc e =>
    intro cls d H' hc sm
    -- the heap H' has all that H has
    obtain ⟨Hs', F', h1, h2⟩ := (ok.step (H1 := H') (Hs1 := Hs) (Fr := []) ⟨sm, Same.refl _, ok.sub.trans sm, fun a h1 _ => h1, fun _ z => absurd z List.not_mem_nil, List.nodup_nil⟩).cold
    exact p cls d σ H' Hs' F' hc h1
  | stuck => exact p
end
section
variable {X : Cx} {c : Ct} {W : WX} {Γ Γ' Γ1 Γ2 : List Nat} {h : Option (Nat × Addr × Er)} {a b e tg iter : Expr} {st : Stmt} {sts rest body orelse : List Stmt} {ma mb : M D} {qa : M Bool} {m m1 m2 : Env → Fl} {n na nb k i : Nat} {pos p : Pos} {x : Str} {bd : Bd} {sl : List Nat} {mi : M (List D)}
theorem ss_nil : PSs X [] (tS c Γ sNext Γ) := impSs pss_nil fun D σ H w => by
  obtain ⟨H0, G0, Hs, F, η, ok, p⟩ := w
  exact p σ H Hs F ok
theorem seq_post {H0 G0 : Hp} {η : Env} {D : Ends} (p : PostS c H0 G0 Γ2 (sSeq m1 m2 η) D) : PostS c H0 G0 Γ1 (m1 η) { D with nx := tS c Γ1 m2 Γ2 D } := by
  unfold sSeq at p
  split at p
  · rename_i η' e
    rw [e]
    exact fun σ' H' Hs' F' ok' => ⟨H0, G0, Hs', F', η', ok', p⟩
  · rename_i r hr
    cases e : m1 η with
    | nx η' => exact absurd e (hr η')
    | rt d => rw [e] at p; exact p
    | bk η' => rw [e] at p; exact p
    | ct η' => rw [e] at p; exact p
    | ex er η' => rw [e] at p; exact p
    | stuck => rw [e] at p; exact p
theorem ss_cons (h1 : PS X st (tS c Γ m1 Γ1)) (h2 : PSs X rest (tS c Γ1 m2 Γ2)) : PSs X (st :: rest) (tS c Γ (sSeq m1 m2) Γ2) := impSs (pss_cons h1 h2) fun D σ H w => by
  obtain ⟨H0, G0, Hs, F, η, ok, p⟩ := w
  exact ⟨H0, G0, Hs, F, η, ok, seq_post p⟩
theorem ss_one (h1 : PS X st (tS c Γ m Γ1)) : PSs X [st] (tS c Γ m Γ1) := pss_one h1
/-- slots are shared ahead of a statement -/
theorem ss_fz (fl : List Bool) (hG : keepG Γ (fun i => fl.getD i false) = Γ1) (h1 : PSs X sts (tS c Γ1 m Γ2)) : PSs X sts (tS c Γ m Γ2) := impSs h1 fun D σ H w => by
  obtain ⟨H0, G0, Hs, F, η, ok, p⟩ := w
  obtain ⟨Hs', F', ok', _, _⟩ := ok.froz fun i => fl.getD i false
  have ok2 : EOk c.S H0 G0 H Hs' Γ1 F' σ η := by rw [← hG]; exact ok'
  exact ⟨H0, G0, Hs', F', η, ok2, p⟩
/-- slots are shared behind a statement -/
theorem s_fz (fl : List Bool) (hG : keepG Γ1 (fun i => fl.getD i false) = Γ2) (h1 : PS X st (tS c Γ m Γ1)) : PS X st (tS c Γ m Γ2) := impS h1 fun D σ H w => by
  obtain ⟨H0, G0, Hs, F, η, ok, p⟩ := w
  refine ⟨H0, G0, Hs, F, η, ok, ?_⟩
  cases e : m η with
  | nx η' =>
    rw [e] at p
    intro σ' H' Hs' F' ok'
    obtain ⟨Hs2, F2, ok2, _, _⟩ := ok'.froz fun i => fl.getD i false
    have ok3 : EOk c.S H0 G0 H' Hs2 Γ2 F2 σ' η' := by rw [← hG]; exact ok2
    exact p σ' H' Hs2 F2 ok3
  | rt d => rw [e] at p; exact p
  | bk η' => rw [e] at p; exact p
  | ct η' => rw [e] at p; exact p
  | ex er η' => rw [e] at p; exact p
  | stuck => rw [e] at p; exact p
theorem s_pass : PS X (.Pass pos) (tS c Γ sNext Γ) := impS ps_pass fun D σ H w => by
  obtain ⟨H0, G0, Hs, F, η, ok, p⟩ := w
  exact p σ H Hs F ok
theorem s_break (hG : c.Γb = Γ := by rfl) : PS X (.Break pos) (tS c Γ sBreak Γ') := impS ps_break fun D σ H w => by
  obtain ⟨H0, G0, Hs, F, η, ok, p⟩ := w
  exact p σ H Hs F (by rw [hG]; exact ok)
theorem s_cont (hG : c.Γc = Γ := by rfl) : PS X (.Continue pos) (tS c Γ sCont Γ') := impS ps_continue fun D σ H w => by
  obtain ⟨H0, G0, Hs, F, η, ok, p⟩ := w
  exact p σ H Hs F (by rw [hG]; exact ok)
theorem s_expr (hS : c.S = sta X h) (he : PE X e (tE (sta X h) c.W Γ ma na)) (hs : swapsWith e none pos.line X.env = pure false := by rfl) : PS X (.Expr e pos) (tS c Γ (sExpr ma) Γ) := impS (ps_expr he hs) fun D σ H w => by
  obtain ⟨H0, G0, Hs, F, η, ok, p⟩ := w
  have pp := onRes_post ok p
  rw [hS] at pp ok
  refine ⟨H0, G0, Hs, F, η, ok, pp.imp fun d kk v H' Hs' Fr st' o => ?_⟩
  have ok2 : EOk c.S H0 G0 H' Hs' Γ F σ η := by rw [hS]; exact ok.step st'
  exact kk σ H' Hs' F ok2
theorem asg_of {t : TE} (hi : ∀ Q σ H, tE c.S c.W Γ ma n σ H Q → t σ H Q) (hot : ∀ j a e, c.S.hot = some (j, a, e) → j ≠ i) (hG : Γ.set i n = Γ') (hl : i < Γ.length ∨ (n = 0 ∧ Γ.getD i 0 = 0)) {D : Ends} {σ : L2.St} {H : Hp} (w : tS c Γ (sAsg ma (bName i)) Γ' D σ H) : tAsg t (gName i) D σ H := by
  obtain ⟨H0, G0, Hs, F, η, ok, p⟩ := w
  refine hi _ σ H ⟨H0, G0, Hs, F, η, ok, (onRes_post ok p).imp fun d kk v H' Hs' Fr st' o => ?_⟩
  show D.nx (σ.set i (some v)) H'
  unfold bName at kk
  by_cases hle : i < η.length
  · rw [if_pos hle] at kk
    have z := ok.bindH hot st' o hl
    rw [hG] at z
    exact kk _ _ _ _ z
  · rw [if_neg hle] at kk
    exact kk.elim
theorem s_asg {p' : Pos} {h : Option (Nat × Addr × Er)} (i : Nat) (hS : c.S = sta X h) (hN : X.N.Nodup) (he : PE X e (tE (sta X h) c.W Γ ma n)) (hG : Γ.set i n = Γ' := by rfl) (hh : coolAt h i = true := by rfl) (hl : i < Γ.length ∨ (n = 0 ∧ Γ.getD i 0 = 0) := by first | exact Or.inl (by decide) | exact Or.inr ⟨rfl, rfl⟩) (hi : X.N[i]? = some x := by rfl) (hx : Loc X.env.scope x := by first | exact Or.inl rfl | exact Or.inr rfl) (hs : swapsWith e (some (.Name x p')) pos.line X.env = pure false := by rfl)
    (hf : X.fn x = true ∨ X.env.scope.names.lookup x = some .local := by first | exact .inl rfl | exact .inr rfl | assumption) : PS X (.Assign [.Name x p'] e pos) (tS c Γ (sAsg ma (bName i)) Γ') := impS (ps_set hN hi hx he hs hf) fun D σ H w =>
  asg_of (by rw [hS]; exact fun _ _ _ z => z) (by rw [hS]; exact coolAt_of hh) hG hl w
/-- y = [..] on one line -/
theorem s_asgC {py : Pos} {elt : Expr} {ifs : List Expr} {scope : Scope} {own : List (Str × Nat)} {spos : Pos} {q : M Bool} {me : M D} {ne : Nat} (i : Nat) (hS : c.S = sta X h) (hc : X.calm = true) (hN : X.N.Nodup) (hi : PI X tg iter (tI (sta X h) c.W Γ mi)) (okB : BlkOk X.N X.env.scope scope own) (hsl : ∀ j ∈ sl, j ∈ own.map (·.2))
    (hg : ∀ (s : Shared) (H : Hp) (C : Addr) (cl : List (Str × Addr)) (fp : List Addr), PG (X.blk s H scope (compEnvC scope cl C X.env) fp) tg (gB (sta X h) Γ bd sl)) (ht : ∀ (s : Shared) (H : Hp) (C : Addr) (cl : List (Str × Addr)) (fp : List Addr), PTs (X.blk s H scope (compEnvC scope cl C X.env) fp) ifs (tQ (sta X h) W0 Γ q))
    (he : ∀ (s : Shared) (H : Hp) (C : Addr) (cl : List (Str × Addr)) (fp : List Addr), PE (X.blk s H scope (compEnvC scope cl C X.env) fp) elt (tE (sta X h) W0 Γ me ne))
    (hG : Γ.set i (ne + 1) = Γ' := by rfl) (hl : i < Γ.length ∨ (ne + 1 = 0 ∧ Γ.getD i 0 = 0) := by exact Or.inl (by decide)) (hy : X.N[i]? = some x := by rfl) (hyl : X.env.scope.names.lookup x = some .local := by rfl)
    (hsw : swapsWith (.ListComp elt [⟨tg, iter, ifs, 0⟩] scope pos) (some (.Name x py)) spos.line X.env = pure true := by exact sw_true rfl rfl rfl (by decide +kernel)) (hs : ∀ z, foldedSetIterable iter X.env z = pure z := by intro _; rfl) (hh : (own.map (·.2)).all (coolAt h) = true := by rfl) (hh2 : coolAt h i = true := by rfl) :
    PS X (.Assign [.Name x py] (.ListComp elt [⟨tg, iter, ifs, 0⟩] scope pos) spos) (tS c Γ (sAsg (dComp mi bd q me (own.map (·.2))) (bName i)) Γ') := impS (ps_setLc hc hN hy hyl hsw hi okB hg ht he hs) fun D σ H w =>
  asg_of (fun Q σ H z => by rw [hS] at z; exact lc_of (S := sta X h) hh hsl z) (by rw [hS]; exact coolAt_of hh2) hG hl w
/-- a, b = e -/
theorem s_asgT (hS : c.S = sta X h) (he : PE X e (tE (sta X h) c.W Γ ma na)) (hg : PG X tg (gB (sta X h) Γ bd sl)) (hs : swapsWithSole [tg] e pos.line X.env = pure false := by rfl) (hw : swappedStores [tg] e X.env = pure none := by rfl) (h1 : (assignEach [tg] X.env).map (·.2) = [assign tg X.env] := by rfl) :
    PS X (.Assign [tg] e pos) (tS c Γ (sAsg ma bd) Γ) := impS (ps_asg he hg hs hw h1) fun D σ H w => by
  obtain ⟨H0, G0, Hs, F, η, ok, p⟩ := w
  have pp := onRes_post ok p
  rw [hS] at pp ok
  refine tE.use ok (pp.imp fun d kk v H' Hs' st' rd ok' => ?_)
  cases hb : bd d η with
  | some η1 =>
    rw [hb] at kk
    exact ⟨H0, G0, Hs', F, η, d, ok', rd, η1, hb, fun σ1 F1 ok1 _ _ => kk σ1 H' Hs' F1 (by rw [hS]; exact ok1)⟩
  | none => rw [hb] at kk; exact kk.elim
/-- a, b = x, y (plain names) -/
def sPar (i j : Nat) (a b : M D) : Env → Fl := fun η => onRes ((a η).bind fun x => (b η).bind fun y => .ok (x, y)) η fun r => if i < η.length ∧ j < η.length then .nx ((η.set i (some r.1)).set j (some r.2)) else .stuck
theorem s_par {y : Str} {px py pt : Pos} {kt k2 pt2} (i j : Nat) (hS : c.S = sta X h) (hc : X.calm = true) (hN : X.N.Nodup) (ha : PE X a (tE (sta X h) c.W Γ ma na)) (hb : PE X b (tE (sta X h) c.W Γ mb nb)) (hgi : Γ.getD i 0 = 0 := by rfl) (hgj : Γ.getD j 0 = 0 := by rfl) (hi : X.N[i]? = some x := by rfl) (hj : X.N[j]? = some y := by rfl) (hij : i ≠ j := by decide)
    (hx : X.env.scope.names.lookup x = some .local := by rfl) (hy : X.env.scope.names.lookup y = some .local := by rfl)
    (hw : swappedStores [.Tuple [.Name x px, .Name y py] kt pt] (.Tuple [a, b] k2 pt2) X.env = pure (some [x, y]) := by rfl)
    (hs : swapsWithSole [.Tuple [.Name x px, .Name y py] kt pt] (.Tuple [a, b] k2 pt2) pos.line X.env = pure false := by rfl) (h1 : starEach [a, b] X.env = (false, eval a X.env) :: starEach [b] X.env := by rfl) (h2 : starEach [b] X.env = (false, eval b X.env) :: starEach [] X.env := by rfl) (hhi : coolAt h i = true := by rfl) (hhj : coolAt h j = true := by rfl) :
    PS X (.Assign [.Tuple [.Name x px, .Name y py] kt pt] (.Tuple [a, b] k2 pt2) pos) (tS c Γ (sPar i j ma mb) Γ) := impS (ps_par hc hN hi hj hij hx hy (pa_cons ha (pa_cons hb pa_nil h2) h1) hw hs) fun D σ H w => by
  obtain ⟨H0, G0, Hs, F, η, ok, p⟩ := w
  have pp := onRes_post ok p
  rw [hS] at pp ok
  refine tE.use ok ((Post.bind pp).imp fun d pd v H1 Hs1 st1 rd ok1 => ?_)
  refine tE.use ok1 (((Post.bind pd).up st1.all).imp fun d2 pd2 v2 H2 Hs2 st2 rd2 ok2 => ?_)
  refine ⟨v, v2, rfl, ?_⟩
  have pd3 : PostS c H0 G0 Γ (if i < η.length ∧ j < η.length then .nx ((η.set i (some d)).set j (some d2)) else .stuck) D := pd2
  split at pd3
  · have k1 := ((ok2.bindH (coolAt_of hhi) (Step.refl ok2.sub) (rd.same st2.shr).own (.inr ⟨rfl, hgi⟩))).cong fun j => (set_zero hgi j).symm
    have k2 := ((k1.bindH (coolAt_of hhj) (Step.refl k1.sub) rd2.own (.inr ⟨rfl, hgj⟩))).cong fun j => (set_zero hgj j).symm
    exact pd3 _ _ _ _ (by rw [hS]; exact k2)
  · exact pd3.elim
theorem s_ret {h : Option (Nat × Addr × Er)} (hS : c.S = sta X h) (he : PE X e (tE (sta X h) c.W Γ ma c.nr)) : PS X (.Return (some e) pos) (tS c Γ (sRet ma) Γ') := impS (ps_ret he) fun D σ H w => by
  obtain ⟨H0, G0, Hs, F, η, ok, p⟩ := w
  have pp := onRes_post ok p
  rw [hS] at pp ok
  exact ⟨H0, G0, Hs, F, η, ok, pp.imp fun d kk v H' Hs' Fr st' o => kk v H' Hs' Fr (ok.st.trans st') (by rw [hS]; exact o)⟩
/-- return x, x a list of this frame's own -/
theorem s_retO {p2 : Pos} (i : Nat) (hS : c.S = sta X h) (hG : Γ.getD i 0 = c.nr := by rfl) (hN : X.N[i]? = some x := by rfl) (hv : Vis X.env.scope x := by first | exact Or.inl rfl | exact Or.inr (Or.inl rfl) | exact Or.inr (Or.inr rfl)) (hd : (x == ("__debug__" : Str)) = false := by decide) (hcd : (x == ("__classdict__" : Str)) = false := by decide) :
    PS X (.Return (some (.Name x p2)) pos) (tS c Γ (sRet (dVar i)) Γ') := impS (ps_ret (pe_var hN hv hd hcd)) fun D σ H w => by
  obtain ⟨H0, G0, Hs, F, η, ok, p⟩ := w
  have pp := onRes_post ok p
  unfold dVar at pp
  split at pp
  · rename_i d hd
    obtain ⟨v, h1, h2⟩ := ok.slot i d hd
    rw [hG] at h2
    exact ⟨v, h1, pp v H Hs (F i) ⟨ok.st.all, ok.st.shr, ok.st.sub, ok.st.new, fun a ha => ⟨(ok.hid i a ha).2.1, (ok.hid i a ha).1⟩, ok.nd i⟩ h2⟩
  · exact pp.elim
theorem s_retN : PS X (.Return none pos) (tS c Γ sRetN Γ') := impS ps_retN fun D σ H w => by
  obtain ⟨H0, G0, Hs, F, η, ok, p⟩ := w
  refine p .non H Hs [] ok.st ((Own.other rfl).mpr ⟨rfl, ?_⟩)
  unfold Rep; rfl
theorem s_if (hS : c.S = sta X h) {ce : Expr} (hq : PT X ce (tQ (sta X h) c.W Γ qa)) (ha : PSs X body (tS c Γ m1 Γ')) (hb : PSs X orelse (tS c Γ m2 Γ')) : PS X (.If ce body orelse pos) (tS c Γ (sIf qa m1 m2) Γ') := impS (ps_if hq ha hb) fun D σ H w => by
  obtain ⟨H0, G0, Hs, F, η, ok, p⟩ := w
  have pp := onRes_post ok p
  rw [hS] at pp ok
  refine tQ.use ok (pp.imp fun b kk H' Hs' st' ok' => ?_)
  have ok2 : EOk c.S H0 G0 H' Hs' Γ F σ η := by rw [hS]; exact ok'
  cases b with
  | true => exact ⟨H0, G0, Hs', F, η, ok2, kk⟩
  | false => exact ⟨H0, G0, Hs', F, η, ok2, kk⟩
/-- x.append(e) -/
theorem s_app {apos cpos p2 : Pos} {n : Nat} (k : Nat) (hS : c.S = sta X h) (he : PE X e (tE (sta X h) c.W Γ ma n)) (hG : Γ.getD k 0 = n + 1 := by rfl) (hN : X.N[k]? = some x := by rfl) (hv : Vis X.env.scope x := by first | exact Or.inl rfl | exact Or.inr (Or.inl rfl) | exact Or.inr (Or.inr rfl)) (hd : (x == ("__debug__" : Str)) = false := by decide) (hcd : (x == ("__classdict__" : Str)) = false := by decide)
    (hbase : attributeBase (.Name x p2) "append" X.env (eval (.Name x p2) X.env) = eval (.Name x p2) X.env := by rfl)
    (hfew : ((backTo cpos (starEach [e] X.env)).all (fun x => !x.1) && (backToKw cpos (keywordEach [] X.env)).all (fun x => x.1.isSome) && decide ([e].length + ([] : List Keyword).length + (if ([] : List Keyword).isEmpty then 0 else 1) < 30)) = true := by rfl)
    (hline : (apos.endLine == cpos.line) = true := by rfl) (hse : starEach [e] X.env = (false, eval e X.env) :: starEach [] X.env := by rfl) (hplain : (backTo cpos (starEach [] X.env)).any (·.1) = false := by rfl)
    (hs : swapsWith (.Call (.Attribute (.Name x p2) "append" apos) [e] [] cpos) none pos.line X.env = pure false := by rfl) :
    PS X (.Expr (.Call (.Attribute (.Name x p2) "append" apos) [e] [] cpos) pos) (tS c Γ (sApp k ma) Γ) :=
  impS (ps_expr (pe_bm PySem.F.plainAttrs_list PySem.F.slot_list_append PySem.F.type_list_append (id mt_append) (pe_var hN hv hd hcd) (pa_cons he pa_nil hse) hbase hfew hline hse hplain) hs) fun D σ H w => by
    obtain ⟨H0, G0, Hs, F, η, ok, p⟩ := w
    obtain ⟨xs, e1, px⟩ := lstAt_ok (onRes_post ok p)
    rw [hS] at ok
    obtain ⟨l, vs, G, h1, h2, h3, h4⟩ := own_at ok hG e1
    refine ⟨.ref l, h1, Or.inl ⟨rfl, vs, SqL.of h3⟩, ?_⟩
    have ok' : EOk c.S H0 G0 H Hs Γ F σ η := by rw [hS]; exact ok
    have pp := onRes_post ok' px
    rw [hS] at pp
    refine ⟨H0, G0, Hs, F, η, ok, pp.imp fun d kk v H' Hs' Fr st' o => ?_⟩
    split at kk
    · rename_i hl
      have h3' : H' l = some (.lst vs) := st'.all _ _ h3
      refine ⟨l, vs, v, rfl, rfl, h3', by rw [h4.length, ← line_eq]; exact hl, ?_⟩
      have okn := ok.step st'
      have hk : k < η.length := (List.getElem?_eq_some_iff.mp e1).1
      have lF : l ∈ F k := by rw [h2]; exact List.mem_cons_self
      have nlF : l ∉ Fr := fun q => by rw [(st'.fr l q).1] at h3; cases h3
      -- the shared part and the rest stand
      have eo : EOk (sta X h) H0 G0 (upd H' l (.lst (vs ++ [v]))) Hs' Γ (fun j => if j = k then l :: (G ++ Fr) else F j) σ (η.set k (some (.lst (xs ++ [d])))) := by
        have hidl := okn.hid k l lF
        refine ⟨⟨fun b u q => ?_, okn.st.shr, fun b u q => ?_, okn.st.new, fun _ z => absurd z List.not_mem_nil, List.nodup_nil⟩, by rw [List.length_set, okn.len], fun j z hz => ?_, fun j b hb => ?_, fun j1 j2 b hb1 hb2 => ?_, fun j => ?_, okn.hot⟩
        · rw [upd_ne (ne_of_none q hidl.2.1)]; exact okn.st.all b u q
        · have nb : b ≠ l := fun z => by rw [z, hidl.1] at q; cases q
          rw [upd_ne nb]; exact okn.st.sub b u q
        · rw [List.getElem?_set] at hz
          by_cases hj : k = j
          · subst hj
            rw [if_pos rfl, if_pos hk] at hz
            have ez : VL.D.lst (xs ++ [d]) = z := by simpa using hz
            subst ez
            refine ⟨.ref l, h1, ?_⟩
            rw [hG, if_pos rfl]
            refine Own.succ.mpr ⟨l, vs ++ [v], G ++ Fr, rfl, rfl, upd_same, ?_⟩
            have m1 : Owns (sta X h) H' Hs' xs n vs G := h4.move st'.shr _ _ _ _ fun a ha => by
              obtain ⟨u, hu⟩ := h4.there a ha
              rw [hu, st'.all a u hu]
            refine (m1.append (Owns.one o)).move (Same.refl _) _ _ _ _ fun a ha => upd_ne fun q => ?_
            subst q
            rcases List.mem_append.mp ha with ha | ha
            · have nd := okn.nd k
              rw [h2] at nd
              exact (List.nodup_cons.mp nd).1 ha
            · exact nlF ha
          · rw [if_neg hj] at hz
            obtain ⟨w, q1, q2⟩ := okn.slot j z hz
            refine ⟨w, q1, ?_⟩
            rw [if_neg (Ne.symm hj)]
            exact q2.move (Same.refl _) _ _ _ _ fun a ha => upd_ne fun q => by
              subst q
              exact hj (okn.disj k j a lF ha)
        · by_cases hj : j = k
          · rw [if_pos hj] at hb
            have cases3 : b = l ∨ b ∈ G ∨ b ∈ Fr := by
              rcases List.mem_cons.mp hb with q | hb
              · exact .inl q
              · exact .inr (List.mem_append.mp hb)
            rcases cases3 with q | q | q
            · rw [q]; exact ⟨hidl.1, hidl.2.1, _, upd_same⟩
            · have z := okn.hid k b (by rw [h2]; exact List.mem_cons_of_mem _ q)
              refine ⟨z.1, z.2.1, ?_⟩
              by_cases bl : b = l
              · rw [bl]; exact ⟨_, upd_same⟩
              · rw [upd_ne bl]; exact z.2.2
            · obtain ⟨u, hu⟩ := o.there d n v Fr b q
              refine ⟨(st'.fr b q).2, ok.st.all.free (st'.fr b q).1, ?_⟩
              rw [upd_ne (fun z => nlF (by rw [← z]; exact q))]
              exact ⟨u, hu⟩
          · rw [if_neg hj] at hb
            have z := okn.hid j b hb
            refine ⟨z.1, z.2.1, ?_⟩
            rw [upd_ne (fun q => hj (okn.disj j k b hb (by rw [q]; exact lF)))]
            exact z.2.2
        · have key : ∀ j b, b ∈ (if j = k then l :: (G ++ Fr) else F j) → b ∈ F j ∨ (j = k ∧ b ∈ Fr) := fun j b hb => by
            by_cases hj : j = k
            · rw [if_pos hj] at hb
              rcases List.mem_cons.mp hb with q | hb
              · left; rw [q, hj]; exact lF
              · rcases List.mem_append.mp hb with q | q
                · left; rw [hj, h2]; exact List.mem_cons_of_mem _ q
                · exact .inr ⟨hj, q⟩
            · rw [if_neg hj] at hb; exact .inl hb
          have no : ∀ j b, b ∈ F j → b ∉ Fr := fun j b hb q => by
            obtain ⟨_, _, u, hu⟩ := ok.hid j b hb
            rw [(st'.fr b q).1] at hu; cases hu
          rcases key j1 b hb1 with q1 | ⟨q1, r1⟩ <;> rcases key j2 b hb2 with q2 | ⟨q2, r2⟩
          · exact okn.disj j1 j2 b q1 q2
          · exact absurd r2 (no j1 b q1)
          · exact absurd r1 (no j2 b q2)
          · rw [q1, q2]
        · by_cases hj : j = k
          · simp only [hj, if_true]
            have nd := okn.nd k
            rw [h2] at nd
            obtain ⟨n1, n2⟩ := List.nodup_cons.mp nd
            refine List.nodup_cons.mpr ⟨fun q => ?_, List.nodup_append.mpr ⟨n2, st'.nd, fun x hx y hy q => ?_⟩⟩
            · rcases List.mem_append.mp q with q | q
              · exact n1 q
              · exact nlF q
            · subst q
              obtain ⟨_, _, u, hu⟩ := ok.hid k x (by rw [h2]; exact List.mem_cons_of_mem _ hx)
              rw [(st'.fr x hy).1] at hu; cases hu
          · simp only [hj, if_false]; exact okn.nd j
      exact kk σ _ Hs' _ (by rw [hS]; exact eo)
    · exact kk.elim
end
end VL
/-! VLSt2: stores, loops, errors, defs. -/
namespace VL
open PySem PySem.Spec L2
section
variable {X : Cx} {c : Ct} {W : WX} {Γ Γ' Γ1 Γ2 : List Nat} {h : Option (Nat × Addr × Er)} {a b e tg iter : Expr} {st : Stmt} {sts rest body orelse : List Stmt} {ma mb : M D} {qa : M Bool} {m m1 m2 : Env → Fl} {n na nb k i : Nat} {pos p : Pos} {x : Str} {bd : Bd} {sl : List Nat} {mi : M (List D)}
/-- the owned list in the slot k holds ys now (items shared) -/
theorem EOk.list1 {S : Sta} {H0 G0 H Hs : Hp} {F : Nat → List Addr} {σ : L2.St} {η : Env} {l : Addr} {ws : List V} {xs ys : List D} (ok : EOk S H0 G0 H Hs Γ F σ η) (hG : Γ.getD k 0 = 1) (h1 : σ[k]? = some (some (.ref l))) (h2 : F k = [l]) (e1 : η[k]? = some (some (.lst xs))) (r : Reps S Hs ys ws) :
    EOk S H0 G0 (upd H l (.lst ws)) Hs Γ F σ (η.set k (some (.lst ys))) where
  st := by
    have lF : l ∈ F k := by rw [h2]; exact List.mem_cons_self
    obtain ⟨q1, q2, q3⟩ := ok.hid k l lF
    refine ⟨fun b u q => ?_, ok.st.shr, fun b u q => ?_, ok.st.new, fun _ z => absurd z List.not_mem_nil, List.nodup_nil⟩
    · rw [upd_ne (ne_of_none q q2)]; exact ok.st.all b u q
    · have nb : b ≠ l := fun z => by rw [z, q1] at q; cases q
      rw [upd_ne nb]; exact ok.st.sub b u q
  len := by rw [List.length_set, ok.len]
  slot := fun j z hz => by
    have lF : l ∈ F k := by rw [h2]; exact List.mem_cons_self
    have hk : k < η.length := (List.getElem?_eq_some_iff.mp e1).1
    rw [List.getElem?_set] at hz
    by_cases hj : k = j
    · subst hj
      rw [if_pos rfl, if_pos hk] at hz
      have ez : VL.D.lst ys = z := by simpa using hz
      subst ez
      refine ⟨.ref l, h1, ?_⟩
      rw [hG, h2]
      exact Own.succ.mpr ⟨l, ws, [], rfl, rfl, upd_same, Owns.of_reps r⟩
    · rw [if_neg hj] at hz
      obtain ⟨w, q1, q2⟩ := ok.slot j z hz
      refine ⟨w, q1, q2.move (Same.refl _) _ _ _ _ fun a ha => upd_ne fun q => ?_⟩
      subst q
      exact hj (ok.disj k j a lF ha)
  hid := fun j b hb => by
    obtain ⟨q1, q2, u, hu⟩ := ok.hid j b hb
    refine ⟨q1, q2, ?_⟩
    by_cases bl : b = l
    · rw [bl]; exact ⟨_, upd_same⟩
    · rw [upd_ne bl]; exact ⟨u, hu⟩
  disj := ok.disj
  nd := ok.nd
  hot := ok.hot
theorem setD_ok {xs ys : List D} {i : Int} {d : D} (e : setD xs i d = some ys) : ∃ j, ixN xs.length i = some j ∧ ys = xs.set j d := by
  unfold setD at e
  obtain ⟨j, e1, e2⟩ := Option.map_eq_some_iff.mp e
  exact ⟨j, e1, e2.symm⟩
/-- x[i] = e, x a list of this frame's own whose items are shared -/
theorem s_set {p2 pt : Pos} (k : Nat) (hS : c.S = sta X h) (he : PE X e (tE (sta X h) c.W Γ ma na)) (hb : PE X b (tE (sta X h) c.W Γ mb nb)) (hG : Γ.getD k 0 = 1 := by rfl) (hN : X.N[k]? = some x := by rfl) (hv : Vis X.env.scope x := by first | exact Or.inl rfl | exact Or.inr (Or.inl rfl) | exact Or.inr (Or.inr rfl)) (hd : (x == ("__debug__" : Str)) = false := by decide) (hcd : (x == ("__classdict__" : Str)) = false := by decide)
    (hs : swapsWithSole [.Subscript (.Name x p2) b pt] e pos.line X.env = pure false := by rfl) (hw : swappedStores [.Subscript (.Name x p2) b pt] e X.env = pure none := by rfl) (h1 : (assignEach [.Subscript (.Name x p2) b pt] X.env).map (·.2) = [assign (.Subscript (.Name x p2) b pt) X.env] := by rfl)
    (hpg : ∀ {to ti : TE}, PE X (.Name x p2) to → PE X b ti → PG X (.Subscript (.Name x p2) b pt) (gSub to ti rSetL) := by intro _ _ h1 h2; exact pg_sub h1 h2 set_list) :
    PS X (.Assign [.Subscript (.Name x p2) b pt] e pos) (tS c Γ (sSet k mb ma) Γ) := impS (ps_asg he (hpg (pe_var hN hv hd hcd) hb) hs hw h1) fun D σ H w => by
  obtain ⟨H0, G0, Hs, F, η, ok, p⟩ := w
  have pp := onRes_post ok p
  rw [hS] at pp ok
  refine tE.use ok (pp.imp fun d kk v H1 Hs1 st1 rd ok1 => ?_)
  have okc : EOk c.S H0 G0 H1 Hs1 Γ F σ η := by rw [hS]; exact ok1
  obtain ⟨xs, e1, px⟩ := lstAt_ok (onRes_post okc kk)
  obtain ⟨l, vs, G, q1, q2, q3, q4⟩ := own_at ok1 hG e1
  obtain ⟨rfl, r4⟩ := q4.reps
  have pp2 := onRes_post okc px
  rw [hS] at pp2
  refine ⟨.ref l, q1, tE.use ok1 (pp2.imp fun y ky u H2 Hs2 st2 ru ok2 => ?_)⟩
  cases y <;> first | exact ky.elim | skip
  rename_i z
  have ky' : PostS c H0 G0 Γ (match setD xs z d with | some ys => Fl.nx (η.set k (some (.lst ys))) | none => .stuck) D := ky
  split at ky'
  · rename_i ys hy
    obtain ⟨j, hj, rfl⟩ := setD_ok hy
    unfold Rep at ru
    have r4' := r4.same st2.shr
    have q3' : H2 l = some (.lst vs) := st2.all _ _ q3
    refine ⟨l, vs, z, j, rfl, ru, q3', by rw [r4.length]; exact hj, ?_⟩
    have z := ok2.list1 hG q1 q2 e1 (r4'.set j (rd.same st2.shr))
    exact ky' σ _ Hs2 F (by rw [hS]; exact z)
  · exact ky'.elim
/-- x op= e -/
theorem pip_of {op : Operator} {r : R2} (h : OpR X (inplaceOp op) r) : PIp X op r := h
theorem s_aug {op : Operator} {r : R2} {f : D → D → Res D} {p2 : Pos} (i : Nat) (hS : c.S = sta X h) (hN : X.N.Nodup) (ho : OpR X (inplaceOp op) r) (hf : OpD (sta X h) r f 0) (he : PE X e (tE (sta X h) c.W Γ ma na)) (hg : Γ.getD i 0 = 0 := by rfl) (hi : X.N[i]? = some x := by rfl) (hx : Loc X.env.scope x := by first | exact Or.inl rfl | exact Or.inr rfl)
    (hfn : X.fn x = true ∨ X.env.scope.names.lookup x = some .local := by first | exact .inl rfl | exact .inr rfl | assumption) (hh : coolAt h i = true := by rfl) : PS X (.AugAssign (.Name x p2) op e pos) (tS c Γ (sAug i f ma) Γ) := impS (ps_aug hN hi hx he (pip_of ho) hfn) fun D σ H w => by
  obtain ⟨H0, G0, Hs, F, η, ok, p⟩ := w
  have pp := onRes_post ok p
  rw [hS] at pp ok
  have pv := Post.bind pp
  unfold dVar at pv
  split at pv
  · rename_i d hd
    obtain ⟨v, h1, h2⟩ := ok.slot i d hd
    rw [hg] at h2
    obtain ⟨-, h3⟩ := Own.zero.mp h2
    have pv' : Post (sta X h) c.W σ H ((ma η).bind fun y => f d y) _ := pv
    refine ⟨v, h1, tE.use ok ((Post.bind pv').imp fun y py u H1 Hs1 st1 r1 ok1 => ?_)⟩
    refine hf c.W σ H1 Hs1 d y v u _ ok1.sub (h3.same st1.shr) r1 ((py.up st1.all).imp fun z kk v2 H2 Hs2 Fr st2 o2 => ?_)
    have hle : i < η.length := (List.getElem?_eq_some_iff.mp hd).1
    rw [if_pos hle] at kk
    have z := (ok1.bindH (coolAt_of hh) st2 o2 (.inr ⟨rfl, hg⟩)).cong fun j => (set_zero hg j).symm
    exact kk _ H2 Hs2 _ (by rw [hS]; exact z)
  · exact pv.elim
/-! entered anew: what is shared now is the ground -/
def joinH (H0 Hs : Hp) : Hp := fun a => match Hs a with
  | some o => some o
  | none => H0 a
section
variable {S : Sta} {H0 G0 H2 Hs2 H' Hs' : Hp} {F F' : Nat → List Addr} {σ σ' : L2.St} {η η' : Env} {Fr : List Addr}
theorem join_none {a : Addr} (h : joinH H0 Hs2 a = none) : Hs2 a = none ∧ H0 a = none := by
  unfold joinH at h
  split at h
  · cases h
  · rename_i e; exact ⟨e, h⟩
theorem EOk.enter (ok : EOk S H0 G0 H2 Hs2 Γ F σ η) : EOk S (joinH H0 Hs2) Hs2 H2 Hs2 Γ F σ η :=
  ⟨⟨fun a o e => by
    unfold joinH at e
    split at e
    · rename_i q; cases e; exact ok.sub a _ q
    · exact ok.st.all a o e, Same.refl _, ok.sub, fun a h _ => h, fun _ z => absurd z List.not_mem_nil, List.nodup_nil⟩, ok.len, ok.slot, fun i a ha => by
    obtain ⟨h1, h2, h3⟩ := ok.hid i a ha
    refine ⟨h1, ?_, h3⟩
    unfold joinH
    rw [h1]
    exact h2, ok.disj, ok.nd, ok.hot⟩
theorem Step.leave (ok : EOk S H0 G0 H2 Hs2 Γ F σ η) (s : Step (joinH H0 Hs2) Hs2 H' Hs' Fr) : Step H0 G0 H' Hs' Fr := by
  have sj : Same H0 (joinH H0 Hs2) := fun a o e => by
    unfold joinH
    split
    · rename_i u q
      have h1 := ok.sub a u q
      have h2 := ok.st.all a o e
      rw [h1] at h2
      exact h2
    · exact e
  exact ⟨sj.trans s.all, ok.st.shr.trans s.shr, s.sub, fun a h1 ⟨o, h2⟩ => s.new a (ok.st.new a h1 ⟨o, h2⟩) ⟨o, sj a o h2⟩, fun a ha => ⟨(join_none (s.fr a ha).1).2, (s.fr a ha).2⟩, s.nd⟩
theorem EOk.leave (ok : EOk S H0 G0 H2 Hs2 Γ F σ η) (ok' : EOk S (joinH H0 Hs2) Hs2 H' Hs' Γ' F' σ' η') : EOk S H0 G0 H' Hs' Γ' F' σ' η' :=
  ⟨Step.leave ok ok'.st, ok'.len, ok'.slot, fun i a ha => by
    obtain ⟨h1, h2, h3⟩ := ok'.hid i a ha
    exact ⟨h1, (join_none h2).2, h3⟩, ok'.disj, ok'.nd, ok'.hot⟩
end
theorem s_for (fl : List Bool) (hS : c.S = sta X h) (hp : PassesOwn (model X.prog X.w) X.A X.env X.xe) (hc : X.calm = true) (hi : PI X tg iter (tI (sta X h) c.W Γ mi)) (hg : PG X tg (gB (sta X h) Γ bd sl)) (hG : keepG Γ (fun i => fl.getD i false) = Γ')
    (hb : PSs X body (tS { c with Γb := Γ', Γc := Γ } Γ m Γ)) (hs : ∀ z, foldedSetIterable iter X.env z = pure z := by intro _; rfl) : PS X (.For tg iter body [] pos) (tS c Γ (sFor mi bd m) Γ') := impS (ps_for hp hc hi hg hb hs) fun D σ H w => by
  obtain ⟨H0, G0, Hs, F, η, ok, p⟩ := w
  have pp := onRes_post ok p
  have okS := ok
  rw [hS] at pp ok
  refine ⟨H0, G0, Hs, F, η, ok, pp.imp fun ds kk J H1 Hs1 st1 wk => ?_⟩
  have ok1 := ok.step st1
  refine ⟨fun i mm σ' H' => mm = ds.length - i ∧ i ≤ ds.length ∧ ∃ (Hs' : Hp) (F' : Nat → List Addr) (η' : Env), EOk (sta X h) H0 G0 H' Hs' Γ F' σ' η' ∧ Same Hs1 Hs' ∧ PostS c H0 G0 Γ' (forGo bd m (ds.drop i) η') D, ⟨ds.length, rfl, Nat.zero_le _, Hs1, F, η, ok1, Same.refl _, kk⟩, ?_⟩
  rintro i mm σ' H' ⟨rfl, hi, Hs', F', η', ok', sm, go⟩
  obtain ⟨wk1, wk2⟩ := wk i H' Hs' sm ok'.sub
  by_cases hlt : i < ds.length
  · right
    have hx : ds[i]? = some ds[i] := List.getElem?_eq_getElem hlt
    obtain ⟨g1, g2⟩ := wk1 _ hx
    have hdrop : ds.drop i = ds[i] :: ds.drop (i + 1) := List.drop_eq_getElem_cons hlt
    rw [hdrop] at go
    unfold forGo at go
    refine ⟨g1, fun σ2 H2 => ∃ (Hs' : Hp) (F' : Nat → List Addr) (η' : Env), EOk (sta X h) H0 G0 H2 Hs' Γ F' σ2 η' ∧ Same Hs1 Hs' ∧ PostS c H0 G0 Γ' (forGo bd m (ds.drop (i + 1)) η') D, fun σ2 H2 h2 => ⟨ds.length - (i + 1), by omega, rfl, hlt, h2⟩, fun x H2 yl => ?_⟩
    obtain ⟨Hs2, st2, rx⟩ := g2 x H2 yl
    split at go
    · rename_i η1 hbd
      refine ⟨H0, G0, Hs2, F', η', ds[i], ok'.step st2, rx, η1, hbd, fun σ3 F3 ok3 _ _ => ?_⟩
      have okc : EOk c.S H0 G0 H2 Hs2 Γ F3 σ3 η1 := by rw [hS]; exact ok3
      refine ⟨joinH H0 Hs2, Hs2, Hs2, F3, η1, okc.enter, ?_⟩
      have next : ∀ {η5 : Env}, PostS c H0 G0 Γ' (forGo bd m (ds.drop (i + 1)) η5) D → ∀ (σ' : L2.St) (H' Hs' : Hp) (F' : Nat → List Addr), EOk c.S (joinH H0 Hs2) Hs2 H' Hs' Γ F' σ' η5 →
          ∃ (Hs' : Hp) (F' : Nat → List Addr) (η' : Env), EOk (sta X h) H0 G0 H' Hs' Γ F' σ' η' ∧ Same Hs1 Hs' ∧ PostS c H0 G0 Γ' (forGo bd m (ds.drop (i + 1)) η') D := fun {η5} q σ5 H5 Hs5 F5 ok5 =>
        ⟨Hs5, F5, η5, by rw [← hS]; exact okc.leave ok5, sm.trans (st2.shr.trans ok5.st.shr), q⟩
      cases e : m η1 with
      | nx η5 => rw [e] at go; exact next go
      | ct η5 => rw [e] at go; exact next go
      | bk η5 =>
        rw [e] at go
        exact fun σ5 H5 Hs5 F5 ok5 => go σ5 H5 Hs5 F5 (okc.leave ok5)
      | rt d =>
        rw [e] at go
        exact fun v H5 Hs5 Fr s5 o5 => go v H5 Hs5 Fr (Step.leave okc s5) o5
      | ex er η5 =>
        rw [e] at go
        exact fun cls dd σ5 H5 Hs5 F5 hcl ok5 => go cls dd σ5 H5 Hs5 F5 hcl (okc.leave ok5)
      | stuck => rw [e] at go; exact go
    · exact go.elim
  · left
    have e : i = ds.length := by omega
    subst e
    refine ⟨wk2 (List.getElem?_eq_none (Nat.le_refl _)), ?_⟩
    rw [List.drop_length] at go
    have go' : ∀ (σ' : L2.St) (H' Hs' : Hp) (F' : Nat → List Addr), EOk c.S H0 G0 H' Hs' Γ' F' σ' η' → D.nx σ' H' := go
    obtain ⟨Hs2, F2, ok2, _, _⟩ := ok'.froz fun i => fl.getD i false
    have ok3 : EOk c.S H0 G0 H' Hs2 Γ' F2 σ' η' := by rw [hS, ← hG]; exact ok2
    exact go' σ' H' Hs2 F2 ok3
theorem whileGo_mono {q : M Bool} {m : Env → Fl} : ∀ (n k : Nat) (η : Env), n ≤ k → whileGo q m n η ≠ .stuck → whileGo q m k η = whileGo q m n η
  | 0, _, _, _, h => absurd rfl h
  | n + 1, 0, _, hk, _ => absurd hk (by omega)
  | n + 1, k + 1, η, hk, h => by
    unfold whileGo at h ⊢
    cases hq : q η with
    | ok b =>
      rw [hq] at h
      cases b with
      | false => rfl
      | true =>
        have h' : (match m η with | .nx η' => whileGo q m n η' | .ct η' => whileGo q m n η' | .bk η' => .nx η' | r => r) ≠ .stuck := h
        show (match m η with | .nx η' => whileGo q m k η' | .ct η' => whileGo q m k η' | .bk η' => .nx η' | r => r) = (match m η with | .nx η' => whileGo q m n η' | .ct η' => whileGo q m n η' | .bk η' => .nx η' | r => r)
        cases e : m η with
        | nx η' => rw [e] at h'; exact whileGo_mono n k η' (by omega) h'
        | ct η' => rw [e] at h'; exact whileGo_mono n k η' (by omega) h'
        | bk η' => rfl
        | rt d => rfl
        | ex er η' => rfl
        | stuck => rfl
    | exc er => rfl
    | stuck => rfl
theorem sWhile_eq {q : M Bool} {m : Env → Fl} {η : Env} (n : Nat) (h : whileGo q m n η ≠ .stuck) : sWhile q m η = whileGo q m n η := by
  classical
  have ex : ∃ n, whileGo q m n η ≠ .stuck := ⟨n, h⟩
  have e : sWhile q m η = whileGo q m (Classical.choose ex) η := by
    unfold sWhile
    rw [dif_pos ex]
  rw [e]
  have h2 := Classical.choose_spec ex
  rcases Nat.le_total n (Classical.choose ex) with hl | hl
  · exact whileGo_mono n _ η hl h
  · exact (whileGo_mono _ n η hl h2).symm
theorem s_while {ce : Expr} (fl : List Bool) (hS : c.S = sta X h) (hp : PassesOwn (model X.prog X.w) X.A X.env X.xe) (hq : PT X ce (tQ (sta X h) c.W Γ qa)) (hG : keepG Γ (fun i => fl.getD i false) = Γ')
    (hb : PSs X body (tS { c with Γb := Γ', Γc := Γ } Γ m Γ)) : PS X (.While ce body [] pos) (tS c Γ (sWhile qa m) Γ') := impS (ps_while hp hq hb) fun D σ H w => by
  obtain ⟨H0, G0, Hs, F, η, ok, p⟩ := w
  obtain ⟨n0, hn0⟩ : ∃ n, whileGo qa m n η ≠ .stuck := by
    by_cases ex : ∃ n, whileGo qa m n η ≠ .stuck
    · exact ex
    · have e : sWhile qa m η = .stuck := by
        classical
        unfold sWhile
        rw [dif_neg ex]
      rw [e] at p
      exact p.elim
  rw [sWhile_eq n0 hn0] at p
  refine ⟨fun n σ' H' => ∃ (Hs' : Hp) (F' : Nat → List Addr) (η' : Env), EOk c.S H0 G0 H' Hs' Γ F' σ' η' ∧ PostS c H0 G0 Γ' (whileGo qa m n η') D, ⟨n0, Hs, F, η, ok, p⟩, ?_⟩
  rintro n σ1 H1 ⟨Hs1, F1, η1, ok1, p1⟩
  cases n with
  | zero => exact p1.elim
  | succ n =>
    unfold whileGo at p1
    have pp := onRes_post ok1 p1
    have okx := ok1
    rw [hS] at pp ok1
    refine tQ.use ok1 (pp.imp fun b kk H2 Hs2 st2 ok2 => ?_)
    have okc : EOk c.S H0 G0 H2 Hs2 Γ F1 σ1 η1 := by rw [hS]; exact ok2
    cases b with
    | true =>
      rw [if_pos rfl]
      have kk' : PostS c H0 G0 Γ' (match m η1 with | .nx η' => whileGo qa m n η' | .ct η' => whileGo qa m n η' | .bk η' => .nx η' | r => r) D := kk
      refine ⟨fun σ' H' => ∃ (Hs' : Hp) (F' : Nat → List Addr) (η' : Env), EOk c.S H0 G0 H' Hs' Γ F' σ' η' ∧ PostS c H0 G0 Γ' (whileGo qa m n η') D, fun σ' H' h => ⟨n, Nat.lt_succ_self _, h⟩, H0, G0, Hs2, F1, η1, okc, ?_⟩
      cases e : m η1 with
      | nx η5 => rw [e] at kk'; exact fun σ5 H5 Hs5 F5 ok5 => ⟨Hs5, F5, η5, ok5, kk'⟩
      | ct η5 => rw [e] at kk'; exact fun σ5 H5 Hs5 F5 ok5 => ⟨Hs5, F5, η5, ok5, kk'⟩
      | bk η5 => rw [e] at kk'; exact kk'
      | rt d => rw [e] at kk'; exact kk'
      | ex er η5 => rw [e] at kk'; exact kk'
      | stuck => rw [e] at kk'; exact kk'
    | false =>
      rw [if_neg Bool.false_ne_true]
      have kk' : ∀ (σ' : L2.St) (H' Hs' : Hp) (F' : Nat → List Addr), EOk c.S H0 G0 H' Hs' Γ' F' σ' η1 → D.nx σ' H' := kk
      obtain ⟨Hs3, F3, ok3, _, _⟩ := okc.froz fun i => fl.getD i false
      exact kk' σ1 H2 Hs3 F3 (by rw [← hG]; exact ok3)
/-! ### errors -/
/-- what the written part says of an error's class -/
structure ErC (K : PySem.W.Frag) (mg : Str → Option Value) (e : Er) (C : Addr) : Prop where
  g : mg e.name = some (.ref C)
  x : PySem.W.excIn K C He.veBase "ValueError.__new__" = true
  k : PySem.W.keepIn K (.ref C) = true
  s : PySem.W.subIn K (.ref C) (.type "BaseException") = some true
  t : PySem.W.typeIn K (.ref C) = some (.type "type")
theorem s_raise {x m' : Str} {j : Nat} {p1 p2 p3 : Pos} {C : Addr} (er : Er) (hx : er.name = x) (hS : c.S = sta X h) (hc : X.calm = true) (tk : Takes X c.W) (E : ErC X.K X.mg er C) (hg : Gl X x := by rfl) (hdb : (x == ("__debug__" : Str)) = false := by decide) :
    PS X (.Raise (some (.Call (.Name x p1) [.Constant (.str m') j p2] [] p3)) none pos) (tS c Γ (sRaise er) Γ') := by
  subst hx
  refine impS (ps_raise hc tk (pmk_own PySem.F.excBase_ValueError E.x E.g E.k (raises_own E.s E.t) hg hdb)) fun D σ H w => ?_
  obtain ⟨H0, G0, Hs, F, η, ok, p⟩ := w
  obtain ⟨Hs', F', h1, h2⟩ := ok.cold
  exact p (.ref C) none σ H Hs' F' ⟨rfl, C, rfl, by rw [hS]; exact E.g⟩ h1
end
end VL
/-! VLFn: try, isinstance of an error, defs. -/
namespace VL
open PySem PySem.Spec L2
/-- what the written part says of the errors' classes -/
structure ErT (K : PySem.W.Frag) (mg : Str → Option Value) : Prop where
  kit : ∀ (e c : Er) (A B : Addr), mg e.name = some (.ref A) → mg c.name = some (.ref B) → e.own = true → c.own = true → PySem.W.kitOne K (.ref A) (.ref B) = some (e.sub c)
  exm : ∀ (e c : Er) (A B : Addr), mg e.name = some (.ref A) → mg c.name = some (.ref B) → e.own = true → c.own = true → PySem.W.exmOne K (.ref A) (.ref B) = some (e.sub c)
  kitV : ∀ (e : Er) (A : Addr), mg e.name = some (.ref A) → e.own = true → PySem.W.kitOne K (.ref A) (.type "ValueError") = some true
  exc : ∀ (e : Er) (A : Addr), mg e.name = some (.ref A) → e.own = true → ExcC K A
  erc : ∀ (e : Er) (A : Addr), mg e.name = some (.ref A) → e.own = true → ErC K mg e A
theorem bt_ve : bootBuiltins "ValueError" = some (.type "ValueError") := by decide +kernel
section
variable {X : Cx} {c : Ct} {W : WX} {Γ Γ' Γ1 Γ2 Γh Γh' : List Nat} {a b e tg iter : Expr} {st b₀ : Stmt} {sts rest body suite : List Stmt} {ma mb : M D} {qa : M Bool} {m m1 m2 : Env → Fl} {n na nb k i : Nat} {pos pos' p p1 p2 np : Pos} {x y : Str}
theorem allz {l : List Nat} (h : l.all (· == 0) = true) : ∀ i, l.getD i 0 = 0 := fun i => by
  by_cases hi : i < l.length
  · have z := List.all_eq_true.mp h l[i] (List.getElem_mem hi)
    have z2 : l[i] = 0 := by simpa using z
    simp [List.getD, hi, z2]
  · simp [List.getD, hi]
theorem e_isEr {AE AC : Addr} {a : Addr} {oe : Obj} {pn : List (Addr × Obj)} {er : Er} (cr : Er) (i : Nat) (T : ErT X.K X.mg) (hz : Zc (.ref AE) none oe) (hf : ∃ vs, oe.data = .fields vs) (gE : X.mg er.name = some (.ref AE)) (ho : er.own = true) (gC : X.mg y = some (.ref AC)) (hcr : cr.name = y := by rfl) (hcro : cr.own = true := by rfl) (hm : X.mg "isinstance" = none)
    (hN : X.N[i]? = some x := by rfl) (hv : Vis X.env.scope x := by first | exact Or.inl rfl | exact Or.inr (Or.inl rfl) | exact Or.inr (Or.inr rfl)) (hd : (x == ("__debug__" : Str)) = false := by decide) (hcd : (x == ("__classdict__" : Str)) = false := by decide) (hg : Gl X "isinstance" := by rfl) (hgy : Gl X y := by rfl) (hdy : (y == ("__debug__" : Str)) = false := by decide)
    (hs : starEach [.Name x p1, .Name y p2] X.env = (false, eval (.Name x p1) X.env) :: starEach [.Name y p2] X.env := by rfl) (hs2 : starEach [.Name y p2] X.env = (false, eval (.Name y p2) X.env) :: starEach [] X.env := by rfl) (hpl : (backTo pos (starEach [.Name y p2] X.env)).any (·.1) = false := by rfl) :
    PE (X.suite a ((a, oe) :: pn)) (.Call (.Name "isinstance" p) [.Name x p1, .Name y p2] [] pos) (tE (sta X (some (i, a, er))) W Γ (dIsEr er cr) n) :=
  impE (pe_callB (X := X.suite a ((a, oe) :: pn)) (call_isE (T.exc er AE gE ho) hz hf) hg hm bt_isi (pa_cons (pe_var (X := X.suite a ((a, oe) :: pn)) hN hv hd hcd) (pa_cons (pe_glob (X := X.suite a ((a, oe) :: pn)) (v := .ref AC) hgy gC rfl hdy) pa_nil hs2) hs) (by decide) (by decide) hs hpl) fun σ H Q w => by
    obtain ⟨H0, G0, Hs, F, η, ok, pp⟩ := w
    unfold dIsEr at pp
    subst hcr
    rw [ho, hcro] at pp
    exact ⟨.ref a, ok.hot i a er rfl, .ref AC, .ref AC, _, rfl, fun u r => r, T.kit er cr AE AC gE gC ho hcro, pp _ H Hs [] (Step.refl ok.sub) (Own.scal rfl rep_bl)⟩
/-- isinstance(e, ValueError) -/
theorem e_isEv {AE : Addr} {a : Addr} {oe : Obj} {pn : List (Addr × Obj)} {er : Er} (i : Nat) (T : ErT X.K X.mg) (hz : Zc (.ref AE) none oe) (hf : ∃ vs, oe.data = .fields vs) (gE : X.mg er.name = some (.ref AE)) (ho : er.own = true) (hm : X.mg "isinstance" = none) (hmv : X.mg "ValueError" = none)
    (hN : X.N[i]? = some x := by rfl) (hv : Vis X.env.scope x := by first | exact Or.inl rfl | exact Or.inr (Or.inl rfl) | exact Or.inr (Or.inr rfl)) (hd : (x == ("__debug__" : Str)) = false := by decide) (hcd : (x == ("__classdict__" : Str)) = false := by decide) (hg : Gl X "isinstance" := by rfl) (hgy : Gl X "ValueError" := by rfl)
    (hs : starEach [.Name x p1, .Name "ValueError" p2] X.env = (false, eval (.Name x p1) X.env) :: starEach [.Name "ValueError" p2] X.env := by rfl) (hs2 : starEach [.Name "ValueError" p2] X.env = (false, eval (.Name "ValueError" p2) X.env) :: starEach [] X.env := by rfl) (hpl : (backTo pos (starEach [.Name "ValueError" p2] X.env)).any (·.1) = false := by rfl) :
    PE (X.suite a ((a, oe) :: pn)) (.Call (.Name "isinstance" p) [.Name x p1, .Name "ValueError" p2] [] pos) (tE (sta X (some (i, a, er))) W Γ (dLit (.bl true)) n) :=
  impE (pe_callB (X := X.suite a ((a, oe) :: pn)) (call_isE (T.exc er AE gE ho) hz hf) hg hm bt_isi (pa_cons (pe_var (X := X.suite a ((a, oe) :: pn)) hN hv hd hcd) (pa_cons (pe_bltn (X := X.suite a ((a, oe) :: pn)) (v := .ty "ValueError") hgy hmv bt_ve rfl (by decide) (by decide)) pa_nil hs2) hs) (by decide) (by decide) hs hpl) fun σ H Q w => by
    obtain ⟨H0, G0, Hs, F, η, ok, pp⟩ := w
    exact ⟨.ref a, ok.hot i a er rfl, .ty "ValueError", .type "ValueError", true, rfl, fun u r => r, T.kitV er AE gE ho, pp _ H Hs [] (Step.refl ok.sub) (Own.scal rfl rep_bl)⟩
theorem EOk.heat {K : PySem.W.Frag} {mg : Str → Option Value} {H0 G0 H Hs : Hp} {F : Nat → List Addr} {σ : L2.St} {η : Env} {ad : Addr} {er : Er} (ok : EOk ⟨K, mg, none⟩ H0 G0 H Hs Γ F σ η) (hi : i < η.length) : EOk ⟨K, mg, some (i, ad, er)⟩ H0 G0 H Hs Γ F (σ.set i (some (.ref ad))) (η.set i none) where
  st := ok.st
  len := by rw [List.length_set, List.length_set, ok.len]
  slot := fun j d h => by
    rw [List.getElem?_set] at h ⊢
    by_cases hj : i = j
    · rw [if_pos hj, if_pos hi] at h; cases h
    · rw [if_neg hj] at h ⊢
      obtain ⟨v, h1, h2⟩ := ok.slot j d h
      exact ⟨v, h1, h2.cool d _ v _⟩
  hid := ok.hid
  disj := ok.disj
  nd := ok.nd
  hot := fun j b f q => by
    cases q
    rw [List.getElem?_set, if_pos rfl, if_pos (by rw [ok.len]; exact hi)]
theorem EOk.cool {K : PySem.W.Frag} {mg : Str → Option Value} {h : Option (Nat × Addr × Er)} {H0 G0 H Hs : Hp} {F : Nat → List Addr} {σ : L2.St} {η : Env} (ok : EOk ⟨K, mg, h⟩ H0 G0 H Hs Γ F σ η) : EOk ⟨K, mg, none⟩ H0 G0 H Hs Γ F σ η where
  st := ok.st
  len := ok.len
  slot := fun j d q => by
    obtain ⟨v, h1, h2⟩ := ok.slot j d q
    exact ⟨v, h1, h2.cool d _ v _⟩
  hid := ok.hid
  disj := ok.disj
  nd := ok.nd
  hot := fun j b f q => by cases q
abbrev suiteCt (c : Ct) (S : Sta) (Γh' : List Nat) : Ct := { c with S := S, W := W0 }
theorem s_tryAs {mh : Er → Env → Fl} {AC : Addr} (fl : List Bool) (cr : Er) (i : Nat) (T : ErT X.K X.mg) (hS : c.S = sta X none) (hst : X.stack = X.env :: X.outer) (hfr : X.env.frame = some X.env.locals) (hN : X.N.Nodup) (gC : X.mg y = some (.ref AC)) (hcr : cr.name = y) (hcro : cr.own = true) (tk : Takes X c.W)
    (hz0 : Γh.all (· == 0) = true) (hz1 : Γ'.all (· == 0) = true) (hz2 : Γh'.all (· == 0) = true) (hG : keepG Γ1 (fun i => fl.getD i false) = Γ')
    (hb : ∀ (W : WX) (pn : List (Addr × Obj)) (xe : Value → Shared → Prop), Takes (X.tr pn xe) W → PassesOwn (model X.prog X.w) X.A X.env xe → PSs (X.tr pn xe) body (tS { c with W := W } Γ m Γ1))
    (hsu : ∀ (a : Addr) (oe : Obj) (pn : List (Addr × Obj)) (er : Er) (AE : Addr), er.own = true → X.mg er.name = some (.ref AE) → Zc (.ref AE) none oe → (∃ vs, oe.data = .fields vs) → PSs (X.suite a ((a, oe) :: pn)) (b₀ :: suite) (tS { c with S := sta X (some (i, a, er)), W := W0 } Γh (mh er) Γh'))
    (hi : X.N[i]? = some x := by rfl) (hln : X.env.kindOf x = some .local := by rfl) (hg : Gl X y := by rfl) (hdy : (y == ("__debug__" : Str)) = false := by decide) :
    PS X (.Try body [.ExceptHandler (some (.Name y np)) (some x) (b₀ :: suite) pos'] [] [] pos) (tS c Γ (sTryAs m cr i mh) Γ') := by
  refine impS (ps_try_as (tb := fun W => tS { c with W := W } Γ m Γ1) (ts := fun a cls d => fun D σ H => ∃ (er : Er) (AE : Addr), er.own = true ∧ X.mg er.name = some (.ref AE) ∧ cls = .ref AE ∧ d = none ∧ tS { c with S := sta X (some (i, a, er)), W := W0 } Γh (mh er) Γh' D σ H)
    (c := .ref AC) (Wout := c.W) hst hfr hN hi hln ⟨hg, hdy, .inl gC⟩ tk hb (fun a oe cls d pn hz hf => ⟨fun pins s σ H D I w => ?_⟩)) fun D σ H w => ?_
  · obtain ⟨er, AE, ho, gE, rfl, rfl, w⟩ := w
    exact (hsu a oe pn er AE ho gE hz hf).run pins s σ H D I w
  · obtain ⟨H0, G0, Hs, F, η, ok, p⟩ := w
    refine ⟨H0, G0, Hs, F, η, ok, ?_⟩
    unfold sTryAs at p
    cases e1 : m η with
    | nx η' =>
      rw [e1] at p
      intro σ' H' Hs' F' ok'
      obtain ⟨Hs2, F2, ok2, _, _⟩ := ok'.froz fun i => fl.getD i false
      exact p σ' H' Hs2 F2 (by rw [← hG]; exact ok2)
    | rt d => rw [e1] at p; exact p
    | bk η' => rw [e1] at p; exact p
    | ct η' => rw [e1] at p; exact p
    | stuck => rw [e1] at p; exact p.elim
    | ex er η' =>
      rw [e1] at p
      have p' : PostS c H0 G0 Γ' (if er.own = true ∧ i < η'.length then (if er.sub cr then goneFl i (mh er (η'.set i none)) else .ex er η') else .stuck) D := p
      split at p'
      · rename_i hh
        obtain ⟨ho, hil⟩ := hh
        intro cls dd σ' H' Hs' F' hcl ok'
        obtain ⟨rfl, AE, rfl, gE'⟩ := hcl
        have gE : X.mg er.name = some (.ref AE) := by
          have z : c.S.mg er.name = some (.ref AE) := gE'
          rw [hS] at z; exact z
        subst hcr
        refine ⟨er.sub cr, T.exm er cr AE AC gE gC ho hcro, fun hsb a ha => ?_, fun hsb => ?_⟩
        · rw [if_pos hsb] at p'
          have ok2 : EOk (sta X none) H0 G0 H' Hs' [] F' σ' η' := by rw [← hS]; exact ok'
          have ok3 := (ok2.cong (Γ2 := Γh) fun j => by rw [allz hz0 j]; rfl).heat (ad := a) (er := er) hil
          refine ⟨er, AE, ho, gE, rfl, rfl, H0, G0, Hs', F', η'.set i none, ok3, ?_⟩
          cases e2 : mh er (η'.set i none) with
          | nx η5 =>
            rw [e2] at p'
            intro σ5 H5 Hs5 F5 ok5
            have ok6 : EOk (sta X none) H0 G0 H5 Hs5 Γ' F5 (σ5.set i none) (η5.set i none) := ((ok5.cool).gone rfl).cong fun j => by rw [allz hz1 j, allz hz2 j]
            exact p' _ H5 Hs5 F5 (by rw [hS]; exact ok6)
          | bk η5 =>
            rw [e2] at p'
            intro σ5 H5 Hs5 F5 ok5
            have ok6 : EOk (sta X none) H0 G0 H5 Hs5 c.Γb F5 (σ5.set i none) (η5.set i none) := (ok5.cool).gone rfl
            exact p' _ H5 Hs5 F5 (by rw [hS]; exact ok6)
          | ct η5 =>
            rw [e2] at p'
            intro σ5 H5 Hs5 F5 ok5
            have ok6 : EOk (sta X none) H0 G0 H5 Hs5 c.Γc F5 (σ5.set i none) (η5.set i none) := (ok5.cool).gone rfl
            exact p' _ H5 Hs5 F5 (by rw [hS]; exact ok6)
          | rt d =>
            rw [e2] at p'
            intro v H5 Hs5 Fr s5 o5
            exact p' v H5 Hs5 Fr s5 (by rw [hS]; exact o5.cool d _ v _)
          | ex er2 η5 => rw [e2] at p'; exact p'.elim
          | stuck => rw [e2] at p'; exact p'.elim
        · rw [if_neg (by rw [hsb]; exact Bool.false_ne_true)] at p'
          exact p' (.ref AE) none σ' H' Hs' F' ⟨rfl, AE, rfl, gE'⟩ ok'
      · exact p'.elim
theorem s_tryOnly {mh : Env → Fl} {AC : Addr} (fl : List Bool) (cr : Er) (T : ErT X.K X.mg) (hS : c.S = sta X none) (hst : X.stack = X.env :: X.outer) (hfr : X.env.frame = some X.env.locals) (gC : X.mg y = some (.ref AC)) (hcr : cr.name = y) (hcro : cr.own = true) (tk : Takes X c.W)
    (hz0 : Γh.all (· == 0) = true) (hz1 : Γ'.all (· == 0) = true) (hz2 : Γh'.all (· == 0) = true) (hG : keepG Γ1 (fun i => fl.getD i false) = Γ')
    (hb : ∀ (W : WX) (pn : List (Addr × Obj)) (xe : Value → Shared → Prop), Takes (X.tr pn xe) W → PassesOwn (model X.prog X.w) X.A X.env xe → PSs (X.tr pn xe) body (tS { c with W := W } Γ m Γ1))
    (hsu : ∀ (a : Addr) (oe : Obj) (pn : List (Addr × Obj)), PSs (X.suite a ((a, oe) :: pn)) (b₀ :: suite) (tS { c with W := W0 } Γh mh Γh'))
    (hg : Gl X y := by rfl) (hdy : (y == ("__debug__" : Str)) = false := by decide) :
    PS X (.Try body [.ExceptHandler (some (.Name y np)) none (b₀ :: suite) pos'] [] [] pos) (tS c Γ (sTryOnly m cr mh) Γ') := by
  refine impS (ps_try_only (tb := fun W => tS { c with W := W } Γ m Γ1) (ts := fun a cls d => tS { c with W := W0 } Γh mh Γh')
    (c := .ref AC) (Wout := c.W) hst hfr ⟨hg, hdy, .inl gC⟩ tk hb (fun a oe cls d pn hz hf => hsu a oe pn)) fun D σ H w => ?_
  obtain ⟨H0, G0, Hs, F, η, ok, p⟩ := w
  refine ⟨H0, G0, Hs, F, η, ok, ?_⟩
  unfold sTryOnly at p
  cases e1 : m η with
  | nx η' =>
    rw [e1] at p
    intro σ' H' Hs' F' ok'
    obtain ⟨Hs2, F2, ok2, _, _⟩ := ok'.froz fun i => fl.getD i false
    exact p σ' H' Hs2 F2 (by rw [← hG]; exact ok2)
  | rt d => rw [e1] at p; exact p
  | bk η' => rw [e1] at p; exact p
  | ct η' => rw [e1] at p; exact p
  | stuck => rw [e1] at p; exact p.elim
  | ex er η' =>
    rw [e1] at p
    have p' : PostS c H0 G0 Γ' (if er.own then (if er.sub cr then noEx (mh η') else .ex er η') else .stuck) D := p
    split at p'
    · rename_i ho
      intro cls dd σ' H' Hs' F' hcl ok'
      obtain ⟨rfl, AE, rfl, gE'⟩ := hcl
      have gE : X.mg er.name = some (.ref AE) := by
        have z : c.S.mg er.name = some (.ref AE) := gE'
        rw [hS] at z; exact z
      subst hcr
      refine ⟨er.sub cr, T.exm er cr AE AC gE gC ho hcro, fun hsb a ha => ?_, fun hsb => ?_⟩
      · rw [if_pos hsb] at p'
        have ok3 := ok'.cong (Γ2 := Γh) fun j => by rw [allz hz0 j]; rfl
        refine ⟨H0, G0, Hs', F', η', ok3, ?_⟩
        cases e2 : mh η' with
        | nx η5 =>
          rw [e2] at p'
          exact fun σ5 H5 Hs5 F5 ok5 => p' _ H5 Hs5 F5 (ok5.cong fun j => by rw [allz hz1 j, allz hz2 j])
        | bk η5 => rw [e2] at p'; exact p'
        | ct η5 => rw [e2] at p'; exact p'
        | rt d => rw [e2] at p'; exact p'
        | ex er2 η5 => rw [e2] at p'; exact p'.elim
        | stuck => rw [e2] at p'; exact p'.elim
      · rw [if_neg (by rw [hsb]; exact Bool.false_ne_true)] at p'
        exact p' (.ref AE) none σ' H' Hs' F' ⟨rfl, AE, rfl, gE'⟩ ok'
    · exact p'.elim
end
/-! ### a def -/
abbrev bodyCt (K : PySem.W.Frag) (mg : Str → Option Value) (E : XK) (n : Nat) : Ct := ⟨⟨K, mg, none⟩, fun cls d _ H => E cls d H, n, [], []⟩
theorem fn_ok {P : Program} {w : World} {K : PySem.W.Frag} {mg : Str → Option Value} {base : Heap} {x qual : Str} {params : Arguments} {body : List Stmt} {scope : Scope} {dvs : List V} {kws : List (Str × V)} {fA : Addr} {fd : FuncData} {N ps : List Str} {k ar n : Nat} {m : Env → Fl} {Γ Γ' : List Nat}
    (F : FunD K x qual params body scope dvs kws fA fd) (Sc : FnScope N ps scope) (har : ps.length = ar) (hΓ : Γ.all (· == 0) = true)
    (hbody : ∀ (cdv : Value) (A : Around) (outer : List PySem.Env) (s : Shared) (H : Hp) (E : XK), Room k (A.deeper (PyProof.Rows.envOfC qual scope s.heap.objs.size fA cdv)) → PSs (cxOf (L2.CX P w) P w K mg base N qual scope fA cdv A outer s H E) body (tS (bodyCt K mg E n) Γ m Γ')) :
    FnOk P w K mg base (L2.CX P w) (k + 1) fA fd ps (spF ⟨K, mg, none⟩ ar (mkFn ar N.length m) n) := by
  refine F.ok Sc (fun vs H Q E h => ?_) (fun cdv A outer s H vs Q E hr h => ⟨tS (bodyCt K mg E n) Γ m Γ', hbody cdv A outer s H E hr, ?_⟩)
  · obtain ⟨ds, Hs, h1, h2, h3, _⟩ := h
    rw [h3.length, h1, har]
  · obtain ⟨ds, Hs, h1, h2, h3, post⟩ := h
    have hvl := h3.length
    unfold mkFn at post
    rw [if_pos h1] at post
    have eS : ∀ (i : Nat) (d : D), (ds.map some ++ List.replicate (N.length - ar) none : Env)[i]? = some (some d) → ds[i]? = some d := fun i d e => by
      rw [List.getElem?_append] at e
      split at e
      · simpa using e
      · rw [List.getElem?_replicate] at e
        split at e <;> cases e
    refine ⟨H, Hs, Hs, fun _ => [], ds.map some ++ List.replicate (N.length - ar) none, ⟨Step.refl h2, ?_, fun i d e => ?_, fun _ _ z => absurd z List.not_mem_nil, fun _ _ _ z => absurd z List.not_mem_nil, fun _ => List.nodup_nil, fun _ _ _ z => by cases z⟩, ?_⟩
    · unfold L2.start
      simp [hvl, h1]
    · obtain ⟨v, e1, e2⟩ := h3.get (eS i d e)
      refine ⟨v, ?_, ?_⟩
      · unfold L2.start
        have hlt : i < vs.length := (List.getElem?_eq_some_iff.mp e1).1
        rw [List.getElem?_append_left (by simpa using hlt)]
        simp [e1]
      · rw [allz hΓ i]
        exact e2.own
    · cases e : m (ds.map some ++ List.replicate (N.length - ar) none) with
      | nx η' =>
        rw [e] at post
        have post' : ∀ (v : V) (H' Hs' : Hp) (Fr : List Addr), Step H Hs H' Hs' Fr → Own ⟨K, mg, none⟩ H' Hs' .non n v Fr → Q v H' := post
        exact fun σ' H' Hs' F' ok' => post' .non H' Hs' [] ok'.st ((Own.other rfl).mpr ⟨rfl, by unfold Rep; rfl⟩)
      | rt d => rw [e] at post; exact post
      | ex er η' =>
        rw [e] at post
        have post' : ∀ (cls : Value) (d : Option Addr) (H' : Hp), clsIs ⟨K, mg, none⟩ er cls d → Same H H' → E cls d H' := post
        exact fun cls dd σ' H' Hs' F' hcl ok' => post' cls dd H' hcl ok'.st.all
      | bk η' => rw [e] at post; exact post.elim
      | ct η' => rw [e] at post; exact post.elim
      | stuck => rw [e] at post; exact post.elim
theorem spF_imp {S : Sta} {ar n : Nat} {f g : List D → Res D} (h : ∀ ds, ds.length = ar → g ds ≠ .stuck → f ds = g ds) : ∀ vs H Q E, spF S ar g n vs H Q E → spF S ar f n vs H Q E := fun vs H Q E ⟨ds, Hs, h1, h2, h3, p⟩ => by
  refine ⟨ds, Hs, h1, h2, h3, ?_⟩
  rw [h ds h1 (fun e => by rw [e] at p; exact p.elim)]
  exact p
section
variable {P : Program} {w : World} {K : PySem.W.Frag} {mg : Str → Option Value} {base : Heap} {x : Str} {k ar n : Nat} {f g : List D → Res D} {dfl : List D}
/-- what a def does may be said in other words -/
theorem FnS.imp (F : FnS P w K mg base x k ar f n dfl) (h : ∀ ds, ds.length = ar → g ds ≠ .stuck → f ds = g ds) : FnS P w K mg base x k ar g n dfl := by
  obtain ⟨fA, fd, ps, ds, dvs, h1, h2, h3, h4, h5, h6⟩ := F.ex
  exact ⟨fA, fd, ps, ds, dvs, h1, h2, h3.imp (spF_imp h), h4, h5, h6⟩
end
/-! ### a call with all arguments written -/
section
variable {X : Cx} {W : WX} {Γ : List Nat} {e : Expr} {es : List Expr} {mas : M (List D)} {n k j ar : Nat} {pos p : Pos} {x : Str} {f : List D → Res D}
theorem e_fn {h : Option (Nat × Addr × Er)} (F : FnS X.prog X.w X.K X.mg X.base x k ar f n []) (hr : Room j X.A) (hk : k ≤ j) (tk : Takes X W) (ha : PA X (e :: es) (tA (sta X h) W Γ mas)) (hml : ∀ η ds, mas η = .ok ds → ds.length = es.length + 1) (hlen : es.length + 1 + 0 = ar := by rfl) (hg : Gl X x := by rfl) (hdb : (x == ("__debug__" : Str)) = false := by decide)
    (he : starEach (e :: es) X.env = (false, eval e X.env) :: starEach es X.env := by rfl) (hpl : (backTo pos (starEach es X.env)).any (·.1) = false := by rfl) :
    PE X (.Call (.Name x p) (e :: es) [] pos) (tE (sta X h) W Γ (dCall f mas) n) := by
  have h1 := e_call (p := p) (pos := pos) F (hr.mono hk) tk ha hlen hml hg hdb he hpl
  have e1 : (fun as => f (as ++ [])) = f := funext fun as => by rw [List.append_nil]
  rw [e1] at h1
  exact h1
end
/-! ### what no def of the module hides -/
structure Blt (mg : Str → Option Value) : Prop where
  abs : mg "abs" = none
  len : mg "len" = none
  max : mg "max" = none
  min : mg "min" = none
  sum : mg "sum" = none
  isi : mg "isinstance" = none
  int : mg "int" = none
  bool : mg "bool" = none
  str : mg "str" = none
  list : mg "list" = none
  tuple : mg "tuple" = none
  range : mg "range" = none
  reversed : mg "reversed" = none
  enumerate : mg "enumerate" = none
  zip : mg "zip" = none
  sorted : mg "sorted" = none
  any : mg "any" = none
  all : mg "all" = none
  ve : mg "ValueError" = none
  dict : mg "dict" = none
def bltFa : List He.Fa := [.free "abs", .free "len", .free "max", .free "min", .free "sum", .free "isinstance", .free "int", .free "bool", .free "str", .free "list", .free "tuple", .free "range", .free "reversed", .free "enumerate", .free "zip", .free "sorted", .free "any", .free "all", .free "ValueError", .free "dict"]
/-! ### the errors' classes off the written part -/
def allEr : List Er := [.purse, .range, .malformed, .refused, .notThere, .spent, .badLine]
def erAt (K : PySem.W.Frag) (e : Er) : Option (Option Addr) := match PySem.W.nsIn K mainGlobals e.name with
  | some (some (.ref C)) => some (some C)
  | some none => some none
  | _ => none
def excB (K : PySem.W.Frag) (D : Addr) : Bool := (((decide (PySem.W.findIn K (.ref D) "__getattribute__" = some (some (.builtin "BaseException.__getattribute__"))) && decide (PySem.W.findIn K (.ref D) "__getattr__" = some none)) && (decide (PySem.W.subIn K (.ref D) (.type "BaseException") = some true) && PySem.W.hasDictIn K D)) &&
  ((decide (PySem.W.findIn K (.ref D) "__class__" = some (some (.builtin "object.__class__"))) && decide (PySem.W.specialIn K (.builtin "object.__class__") "__get__" = some (some (.builtin "getset_descriptor.__get__")))) && (decide (PySem.W.takesIn K (.builtin "object.__class__") = some true) && decide (PySem.W.mroIn K D (.type "object") = some true)))) &&
  ((PySem.W.excIn K D He.veBase "ValueError.__new__" && PySem.W.keepIn K (.ref D)) && (decide (PySem.W.typeIn K (.ref D) = some (.type "type")) && decide (PySem.W.kitOne K (.ref D) (.type "ValueError") = some true)))
def erPair (K : PySem.W.Frag) (e c : Er) (A B : Addr) : Bool := decide (PySem.W.kitOne K (.ref A) (.ref B) = some (e.sub c)) && decide (PySem.W.exmOne K (.ref A) (.ref B) = some (e.sub c))
def erB (K : PySem.W.Frag) : Bool := allEr.all fun e => match erAt K e with
  | some (some A) => excB K A && allEr.all fun c => match erAt K c with
    | some (some B) => erPair K e c A B
    | some none => true
    | none => false
  | some none => true
  | none => false
theorem own_mem : ∀ {e : Er}, e.own = true → e ∈ allEr := by
  intro e h
  cases e <;> first | (simp [allEr]; done) | (cases h)
theorem erAt_of {K : PySem.W.Frag} {h : Heap} {mg : Str → Option Value} (X : K.In h) (G : h.Ns mainGlobals mg) {e : Er} {A : Addr} (hm : mg e.name = some (.ref A)) (hB : erAt K e ≠ none) : erAt K e = some (some A) := by
  unfold erAt at hB ⊢
  cases q : PySem.W.nsIn K mainGlobals e.name with
  | none => rw [q] at hB; exact absurd rfl hB
  | some o =>
    cases o with
    | none =>
      have z := PySem.W.mg_none_of X G q
      rw [hm] at z; cases z
    | some v =>
      have z := PySem.W.mg_of X G q
      rw [hm] at z
      cases z
      rfl
theorem erT_of {K : PySem.W.Frag} {h : Heap} {mg : Str → Option Value} (X : K.In h) (G : h.Ns mainGlobals mg) (hB : erB K = true) : ErT K mg := by
  have at_ : ∀ {e : Er} {A : Addr}, mg e.name = some (.ref A) → e.own = true → erAt K e = some (some A) := fun {e A} hm ho => by
    refine erAt_of X G hm fun q => ?_
    have z := List.all_eq_true.mp hB e (own_mem ho)
    rw [q] at z
    cases z
  have one : ∀ {e : Er} {A : Addr}, mg e.name = some (.ref A) → e.own = true → (excB K A && allEr.all fun c => match erAt K c with
    | some (some B) => erPair K e c A B
    | some none => true
    | none => false) = true := fun {e A} hm ho => by
    have z := List.all_eq_true.mp hB e (own_mem ho)
    rw [at_ hm ho] at z
    exact z
  have two : ∀ {e c : Er} {A B : Addr}, mg e.name = some (.ref A) → mg c.name = some (.ref B) → e.own = true → c.own = true → erPair K e c A B = true := fun {e c A B} h1 h2 o1 o2 => by
    have z := List.all_eq_true.mp (Bool.and_eq_true_iff.mp (one h1 o1)).2 c (own_mem o2)
    rw [at_ h2 o2] at z
    exact z
  have ex : ∀ {e : Er} {A : Addr}, mg e.name = some (.ref A) → e.own = true → excB K A = true := fun {e A} hm ho => (Bool.and_eq_true_iff.mp (one hm ho)).1
  refine ⟨fun e c A B h1 h2 o1 o2 => ?_, fun e c A B h1 h2 o1 o2 => ?_, fun e A h1 o1 => ?_, fun e A h1 o1 => ?_, fun e A h1 o1 => ?_⟩
  · have z := two h1 h2 o1 o2
    unfold erPair at z
    simp only [Bool.and_eq_true, decide_eq_true_eq] at z
    exact z.1
  · have z := two h1 h2 o1 o2
    unfold erPair at z
    simp only [Bool.and_eq_true, decide_eq_true_eq] at z
    exact z.2
  · have z := ex h1 o1
    unfold excB at z
    simp only [Bool.and_eq_true, decide_eq_true_eq] at z
    exact z.2.2.2
  · have z := ex h1 o1
    unfold excB at z
    simp only [Bool.and_eq_true, decide_eq_true_eq] at z
    obtain ⟨⟨⟨⟨a1, a2⟩, a3, a4⟩, ⟨a5, a6⟩, a7, a8⟩, _⟩ := z
    exact ⟨a1, a2, a3, a4, a5, a6, a7, a8⟩
  · have z := ex h1 o1
    unfold excB at z
    simp only [Bool.and_eq_true, decide_eq_true_eq] at z
    obtain ⟨⟨⟨_, a3, _⟩, _⟩, ⟨b1, b2⟩, b3, _⟩ := z
    exact ⟨h1, b1, b2, a3, b3⟩
end VL
/-! VLKw: calls with defaults, with keywords. -/
namespace VL
open PySem PySem.Spec L2
def opAddI : D → D → Res D
  | .int i, .int j => .ok (.int (i + j))
  | _, _ => .stuck
theorem od_addI {S : Sta} {n : Nat} : OpD S (rI0 fun i j => .int (i + j)) opAddI n := opd_I0 fun a b => by
  cases a <;> cases b <;> first | exact Or.inr rfl | exact Or.inl ⟨_, _, rfl, rfl, rfl⟩
/-- a def called with keywords: np values written, the names ks behind -/
structure FnK (P : Program) (w : World) (K : PySem.W.Frag) (mg : Str → Option Value) (base : Heap) (x : Str) (k : Nat) (f : List D → List D → Res D) (n np : Nat) (ks : List Str) : Prop where
  ex : ∃ (fA : Addr) (fd : FuncData) (ps : List Str) (ar : Nat) (g : List D → Res D) (gD : List D → List D → List D) (hv : List Value → List Value → List Value) (gV : List V → List V → List V), mg x = some (.ref fA) ∧ PySem.W.keepIn K (.ref fA) = true ∧
    FnOk P w K mg base (L2.CX P w) k fA fd ps (spF ⟨K, mg, none⟩ ar g n) ∧ KBn K fd ps np ks hv gV ∧ (∀ as bs, as.length = np → bs.length = ks.length → f as bs = g (gD as bs) ∧ (gD as bs).length = ar) ∧ (∀ H as bs vs zs, Reps ⟨K, mg, none⟩ H as vs → Reps ⟨K, mg, none⟩ H bs zs → Reps ⟨K, mg, none⟩ H (gD as bs) (gV vs zs))
def dCallK (f : List D → List D → Res D) (a b : M (List D)) : M D := fun η => (a η).bind fun xs => (b η).bind fun ys => f xs ys
section
variable {X : Cx} {W : WX} {Γ : List Nat} {e : Expr} {es : List Expr} {mas mbs : M (List D)} {n k j np : Nat} {pos p : Pos} {x : Str} {f : List D → Res D} {fk : List D → List D → Res D} {dfl : List D} {kws : List Keyword} {ks : List Str}
theorem impK {t t' : TA} (h : PK X kws t) (i : ∀ σ H Q, t' σ H Q → t σ H Q) : PK X kws t' := ⟨fun pos pins s σ H Q I w => h.run pos pins s σ H Q I (i σ H Q w)⟩
theorem k_nil {h : Option (Nat × Addr × Er)} : PK X [] (tA (sta X h) W Γ aNil) := impK pk_nil fun σ H Q w => by
  obtain ⟨H0, G0, Hs, F, η, ok, p⟩ := w
  exact p [] H Hs (Step.refl ok.sub) (Reps.nil_iff.mpr rfl)
theorem k_cons {h : Option (Nat × Addr × Er)} {ma : M D} {na : Nat} {nm : Option Str} {kpos : Pos} (ha : PE X e (tE (sta X h) W Γ ma na)) (hr : PK X kws (tA (sta X h) W Γ mas)) : PK X (⟨nm, e, kpos⟩ :: kws) (tA (sta X h) W Γ (aCons ma mas)) := impK (pk_cons ha hr) fun σ H Q w => by
  obtain ⟨H0, G0, Hs, F, η, ok, p⟩ := w
  refine tE.use ok ((Post.bind p).imp fun d pd v H1 Hs1 st1 rd ok1 => ?_)
  refine tA.use ok1 (((Post.bind pd).up st1.all).imp fun ds pds vs H2 Hs2 st2 rs ok2 => ?_)
  exact pds _ H2 Hs2 (st1.trans st2) (Reps.cons_iff.mpr ⟨_, _, rfl, rd.same st2.shr, rs⟩)
theorem run_SK {CX : CXT} {fA : Addr} {fd : FuncData} {ps : List Str} {sp : Sp} {E : L2.St → XK} {g : List Value → List Value → List Value} {gV : List V → List V → List V} {pins : List (Addr × Obj)} {σ : L2.St} {H : Hp} {s : Shared} {Q : VK} {us ws : List Value} {vs zs : List V} (F : FnOk X.prog X.w X.K X.mg X.base CX k fA fd ps sp) (hr : Room k X.A) (hb : KBn X.K fd ps np ks g gV) (hx : PassesAt CX X σ (E σ))
    (I : Inv X pins σ H s) (r : Vals vs us) (rz : Vals zs ws) (l1 : vs.length = np) (l2 : zs.length = ks.length) (h : sp (gV vs zs) H Q (E σ)) : wpAny (model X.prog X.w) X.A (call (.ref fA) us (ks.zip ws)) (EP X pins σ Q) X.xe s := by
  have r2 := hb.rel r rz
  refine wpAny_call (codeAny_mono (F.run X.A X.stack s H ⟨us, ks.zip ws⟩ (g us ws) (gV vs zs) Q (E σ) hr I.env0 (hb.to s us ws I.kIn (r.length.symm.trans l1) (rz.length.symm.trans l2)) r2 h) fun r s' hq => ?_)
  cases r with
  | error e => exact hx pins H s e s' I hq
  | ok fl =>
    cases fl with
    | ret u => exact I.after hq
    | next => exact False.elim hq
    | brk => exact False.elim hq
    | cont => exact False.elim hq
theorem e_fnK {h : Option (Nat × Addr × Er)} (F : FnK X.prog X.w X.K X.mg X.base x k fk n np ks) (hr : Room j X.A) (hkj : k ≤ j) (tk : Takes X W) (ha : PA X (e :: es) (tA (sta X h) W Γ mas)) (hkw : PK X kws (tA (sta X h) W Γ mbs)) (hml : ∀ η ds, mas η = .ok ds → ds.length = es.length + 1) (hmk : ∀ η ds, mbs η = .ok ds → ds.length = kws.length) (hn : es.length + 1 = np := by rfl) (hkl : kws.length = ks.length := by rfl)
    (hall : (backToKw pos (keywordEach kws X.env)).all (·.1.isSome) = true := by rfl) (hks : (backToKw pos (keywordEach kws X.env)).filterMap (·.1) = ks := by rfl) (hg : Gl X x := by rfl) (hdb : (x == ("__debug__" : Str)) = false := by decide)
    (he : starEach (e :: es) X.env = (false, eval e X.env) :: starEach es X.env := by rfl) (hpl : ((backTo pos (starEach (e :: es) X.env)).any (·.1) || (backToKw pos (keywordEach kws X.env)).any (·.1.isNone)) = false := by rfl) :
    PE X (.Call (.Name x p) (e :: es) kws pos) (tE (sta X h) W Γ (dCallK fk mas mbs) n) := by
  obtain ⟨fA, fd, ps, ar, g, gD, hv, gV, hm, hk, G, hb, hf, hrep⟩ := F.ex
  refine ⟨fun pins s σ H Q I w => ?_⟩
  obtain ⟨H0, G0, Hs, F, η, ok, pp⟩ := w
  refine wpAny_Call_Name_kw (ld_glob I hg hm ?_ hdb)
  have w : tA (sta X h) W Γ mas σ H fun vs H1 => tA (sta X h) W Γ mbs σ H1 fun zs H2 => vs.length = np ∧ zs.length = ks.length ∧ spF ⟨X.K, X.mg, none⟩ ar g n (gV vs zs) H2 Q (WE W σ) := by
    refine tA.use ok ?_
    have pb := Post.bind pp
    cases hη : mas η with
    | ok as =>
      have hl := hml η as hη
      rw [hη] at pb
      refine fun vs H1 Hs1 st1 r1 ok1 => tA.use ok1 ?_
      have pc := (Post.bind (show Post (sta X h) W σ H ((mbs η).bind fun ys => fk as ys) _ from pb)).up st1.all
      cases hκ : mbs η with
      | ok bs =>
        have hl2 := hmk η bs hκ
        rw [hκ] at pc
        refine fun zs H2 Hs2 st2 r2 ok2 => ⟨by rw [r1.length, hl, hn], by rw [r2.length, hl2, hkl], gD as bs, Hs2, ?_, ok2.sub, hrep _ _ _ _ _ ((r1.same st2.shr).cool) (r2.cool), ?_⟩
        · exact (hf as bs (by rw [hl, hn]) (by rw [hl2, hkl])).2
        · have pd : Post (sta X h) W σ H (fk as bs) _ := pc
          rw [(hf as bs (by rw [hl, hn]) (by rw [hl2, hkl])).1] at pd
          exact post_swap (S := sta X h) pd (st1.trans st2).all (fun cls d H' q => q) fun d kk v H' Hs' Fr st o => kk v H' Hs' Fr ((st1.trans st2).trans st) (o.cool d _ v _)
      | exc er => rw [hκ] at pc; exact pc
      | stuck => rw [hκ] at pc; exact pc.elim
    | exc er => rw [hη] at pb; exact pb
    | stuck => rw [hη] at pb; exact pb.elim
  refine PySem.W.callWith_KW (h₀ := X.base) I.ok.mod.kin hk hall (thn (ha.run pos pins s σ H _ I w) fun us s1 ⟨vs, H1, I1, r, q⟩ => ?_) hpl he
  refine thn (hkw.run pos pins s1 σ H1 _ I1 q) fun ws s2 ⟨zs, H2, I2, rz, l1, l2, q2⟩ => ⟨I2.kIn, ?_⟩
  rw [hks]
  exact run_SK G (hr.mono hkj) hb (passAt tk σ) I2 r rz l1 l2 q2
/-- a call that leaves the defaults out -/
theorem e_fnD {h : Option (Nat × Addr × Er)} {ar : Nat} (F : FnS X.prog X.w X.K X.mg X.base x k ar f n dfl) (hr : Room j X.A) (hk : k ≤ j) (tk : Takes X W) (ha : PA X (e :: es) (tA (sta X h) W Γ mas)) (hml : ∀ η ds, mas η = .ok ds → ds.length = es.length + 1) (hlen : es.length + 1 + dfl.length = ar := by rfl) (hg : Gl X x := by rfl) (hdb : (x == ("__debug__" : Str)) = false := by decide)
    (he : starEach (e :: es) X.env = (false, eval e X.env) :: starEach es X.env := by rfl) (hpl : (backTo pos (starEach es X.env)).any (·.1) = false := by rfl) :
    PE X (.Call (.Name x p) (e :: es) [] pos) (tE (sta X h) W Γ (dCall (fun as => f (as ++ dfl)) mas) n) :=
  e_call (p := p) (pos := pos) F (hr.mono hk) tk ha hlen hml hg hdb he hpl
end
theorem FunD_kbinds1 {K : PySem.W.Frag} {x qual : Str} {params : Arguments} {body : List Stmt} {scope : Scope} {dvs : List V} {kws : List (Str × V)} {f : Addr} {fd : FuncData} {ps : List Str} (F : FunD K x qual params body scope dvs kws f fd) (n j : Nat) (ks : List Str) (hd : dvs ≠ [])
    (h : ∀ (T : Addr) (kV doc pm : Value) (an : Option Addr) (cdv ct : Value) (us its ws : List Value), us.length = n → its.length = dvs.length → ws.length = ks.length →
      ∃ k, bindArgs (PySem.W.fnOf x qual params body scope (.ref T) kV doc pm an cdv ct) ⟨us, ks.zip ws⟩ = seqItems? (.ref T) >>= k ∧ k (some its.toArray) = pure (ps.zip (us ++ ws ++ its.drop j))) :
    ∃ rs : List Value, KBn K fd ps n ks (fun us ws => us ++ ws ++ rs) (fun vs zs => vs ++ zs ++ dvs.drop j) := by
  obtain ⟨oc, od, dV, kV, doc, pm, an, cdv, ct, osl, rfl, lk, hcd, hD, hK⟩ := F.ex
  rcases hD with ⟨e, _⟩ | ⟨_, T, o, its, m, rfl, lT, oT, rT⟩
  · exact absurd e hd
  · refine ⟨its.drop j, ⟨fun s us ws X l1 l2 => ?_, fun r1 r2 => (r1.append r2).append (rT.drop j)⟩⟩
    obtain ⟨k, e1, e2⟩ := h T kV doc pm an cdv ct us its ws l1 rT.length.symm l2
    refine BindsTo.of_looks fun M => ?_
    rw [e1]
    exact looks_items X lT oT (.of_pure e2)
theorem Reps.dflt {S : Sta} {H : Hp} : Reps S H [] [] := Reps.nil_iff.mpr rfl
/-- a def as the calls take it -/
theorem FnS_of {P : Program} {w : World} {K : PySem.W.Frag} {mg : Str → Option Value} {base : Heap} {x : Str} {k ar n : Nat} {f : List D → Res D} {fA : Addr} {fd : FuncData} {ps : List Str} (g : mg x = some (.ref fA)) (kp : PySem.W.keepIn K (.ref fA) = true) (o : FnOk P w K mg base (L2.CX P w) k fA fd ps (spF ⟨K, mg, none⟩ ar f n)) (b : Binds K fd ps []) : FnS P w K mg base x k ar f n [] :=
  ⟨⟨fA, fd, ps, [], [], g, kp, o, .nil, fun _ => Reps.dflt, b⟩⟩
/-- .. with defaults left out -/
theorem FnS_d {P : Program} {w : World} {K : PySem.W.Frag} {mg : Str → Option Value} {base : Heap} {x : Str} {k ar n : Nat} {f : List D → Res D} {fA : Addr} {fd : FuncData} {ps : List Str} {dfl : List D} {dvs : List V} (g : mg x = some (.ref fA)) (kp : PySem.W.keepIn K (.ref fA) = true) (o : FnOk P w K mg base (L2.CX P w) k fA fd ps (spF ⟨K, mg, none⟩ ar f n)) (hr : ∀ H, Reps ⟨K, mg, none⟩ H dfl dvs) (b : ∃ ds, Vals dvs ds ∧ Binds K fd ps ds) : FnS P w K mg base x k ar f n dfl := by
  obtain ⟨ds, h1, h2⟩ := b
  exact ⟨⟨fA, fd, ps, ds, dvs, g, kp, o, h1, hr, h2⟩⟩
theorem FnK_of {P : Program} {w : World} {K : PySem.W.Frag} {mg : Str → Option Value} {base : Heap} {x : Str} {k ar n np : Nat} {f : List D → Res D} {fA : Addr} {fd : FuncData} {ps ks : List Str} {dfl : List D} {dvs : List V} (g : mg x = some (.ref fA)) (kp : PySem.W.keepIn K (.ref fA) = true) (o : FnOk P w K mg base (L2.CX P w) k fA fd ps (spF ⟨K, mg, none⟩ ar f n)) (hr : ∀ H, Reps ⟨K, mg, none⟩ H dfl dvs)
    (b : ∃ its : List Value, KBn K fd ps np ks (fun us ws => us ++ ws ++ its) (fun vs zs => vs ++ zs ++ dvs)) (hl : np + ks.length + dfl.length = ar) : FnK P w K mg base x k (fun as bs => f (as ++ bs ++ dfl)) n np ks := by
  obtain ⟨its, h1⟩ := b
  exact ⟨⟨fA, fd, ps, ar, f, fun as bs => as ++ bs ++ dfl, _, _, g, kp, o, h1, fun as bs l1 l2 => ⟨rfl, by rw [List.length_append, List.length_append, l1, l2]; exact hl⟩, fun H as bs vs zs r1 r2 => (r1.append r2).append (hr H)⟩⟩
end VL
/-! VLMore: ranges with a step, calls in a suite. -/
namespace VL
open PySem PySem.Spec L2
def rangeC (lo c : Int) (n : Nat) : List D := (List.range n).map fun (k : Nat) => D.int (lo + (k : Int) * c)
def rgOk (i j c : Int) : Bool := decide (c ≠ 0) && (decide (c.natAbs < 1073741824) && Builtin.Range.small i j c)
def iRange3 (a b c : M D) : M (List D) := fun η => (a η).bind fun x => (b η).bind fun y => (c η).bind fun z => match x, y, z with
  | .int i, .int j, .int k => if rgOk i j k then .ok (rangeC i k (Builtin.Range.rangeSize i j k).toNat) else .stuck
  | _, _, _ => .stuck
theorem walks_rangeC {S : Sta} {Hs : Hp} {lo c : Int} {n : Nat} : Walks S Hs (Itc lo c n) (rangeC lo c n) := fun i H' Hs' s1 s2 => by
  have e : (rangeC lo c n)[i]? = if i < n then some (D.int (lo + (i : Int) * c)) else none := by
    unfold rangeC
    by_cases hi : i < n
    · rw [if_pos hi]; simp [hi]
    · rw [if_neg hi]; simp; omega
  refine ⟨fun d hd => ?_, fun hn => ?_⟩
  · rw [e] at hd
    by_cases hi : i < n
    · rw [if_pos hi] at hd
      cases hd
      refine ⟨hi, fun x H'' y => ?_⟩
      obtain ⟨rfl, rfl⟩ := y
      exact ⟨Hs', Step.refl s2, rep_int⟩
    · rw [if_neg hi] at hd; cases hd
  · rw [e] at hn
    by_cases hi : i < n
    · rw [if_pos hi] at hn; cases hn
    · exact Nat.le_of_not_lt hi
section
variable {X : Cx} {W : WX} {Γ : List Nat} {h : Option (Nat × Addr × Er)} {tg a b c e : Expr} {es : List Expr} {ma mb mc : M D} {mas : M (List D)} {na nb nc n k j ar : Nat} {pos p : Pos} {x : Str} {f : List D → Res D}
theorem i_range3 (hm : X.mg "range" = none) (ha : PE X a (tE (sta X h) W Γ ma na)) (hb : PE X b (tE (sta X h) W Γ mb nb)) (hc : PE X c (tE (sta X h) W Γ mc nc)) (hg : Gl X "range" := by rfl)
    (hs : starEach [a, b, c] X.env = (false, eval a X.env) :: starEach [b, c] X.env := by rfl) (hs2 : starEach [b, c] X.env = (false, eval b X.env) :: starEach [c] X.env := by rfl) (hs3 : starEach [c] X.env = (false, eval c X.env) :: starEach [] X.env := by rfl) (hpl : (backTo pos (starEach [b, c] X.env)).any (·.1) = false := by rfl) :
    PI X tg (.Call (.Name "range" p) [a, b, c] [] pos) (tI (sta X h) W Γ (iRange3 ma mb mc)) := impI (pi_range3 hg hm (pa_cons ha (pa_cons hb (pa_cons hc pa_nil hs3) hs2) hs) hs hpl) fun σ H R w => by
  obtain ⟨H0, G0, Hs, F, η, ok, p⟩ := w
  refine tE.use ok ((Post.bind p).imp fun d pd v H1 Hs1 st1 rd ok1 => ?_)
  refine tE.use ok1 (((Post.bind pd).up st1.all).imp fun d2 pe v2 H2 Hs2 st2 rd2 ok2 => ?_)
  refine tE.use ok2 (((Post.bind pe).up (st1.trans st2).all).imp fun d3 pf v3 H3 Hs3 st3 rd3 ok3 => ?_)
  cases d <;> first | exact pf.elim | skip
  cases d2 <;> first | exact pf.elim | skip
  cases d3 <;> first | exact pf.elim | skip
  rename_i i j k
  have pd' : Post (sta X h) W σ H (if rgOk i j k then Res.ok (rangeC i k (Builtin.Range.rangeSize i j k).toNat) else .stuck) _ := pf
  split at pd'
  · rename_i hj
    unfold rgOk at hj
    simp only [Bool.and_eq_true, decide_eq_true_eq] at hj
    unfold Rep at rd rd2 rd3
    exact ⟨i, j, k, _, by rw [rd, rd2, rd3], ⟨hj.1, hj.2.1, hj.2.2, PyProof.Rows.rangeSize_toNat i j k⟩, pd' _ H3 Hs3 ((st1.trans st2).trans st3) walks_rangeC⟩
  · exact pd'.elim
/-- a call in a suite -/
theorem e_fnS (F : FnS X.prog X.w X.K X.mg X.base x k ar f n []) (hr : Room j X.A) (hk : k ≤ j) (tk : Takes X W) (ha : PA X (e :: es) (tA (sta X h) W Γ mas)) (hml : ∀ η ds, mas η = .ok ds → ds.length = es.length + 1) (hlen : es.length + 1 + 0 = ar := by rfl) (hg : Gl X x := by rfl) (hdb : (x == ("__debug__" : Str)) = false := by decide)
    (he : starEach (e :: es) X.env = (false, eval e X.env) :: starEach es X.env := by rfl) (hpl : (backTo pos (starEach es X.env)).any (·.1) = false := by rfl) :
    PE X (.Call (.Name x p) (e :: es) [] pos) (tE (sta X h) W Γ (dCall f mas) n) := by
  obtain ⟨fA, fd, ps, ds, dvs, hm, hkp, G, hd, hrep, hb⟩ := F.ex
  refine ⟨fun pins s σ H Q I w => ?_⟩
  obtain ⟨H0, G0, Hs, F, η, ok, pp⟩ := w
  refine wpAny_Call_Name_kw (ld_glob I hg hm ?_ hdb)
  have w : tA (sta X h) W Γ mas σ H fun vs H1 => spF ⟨X.K, X.mg, none⟩ ar f n (vs ++ dvs) H1 Q (WE W σ) := by
    cases hη : mas η with
    | ok as =>
      have hl := hml η as hη
      refine tA.use ok ?_
      have pb := Post.bind pp
      rw [hη] at pb ⊢
      refine fun vs H1 Hs1 st1 r1 ok1 => ⟨as ++ [], Hs1, by rw [List.length_append, hl]; exact hlen, ok1.sub, (r1.cool).append (hrep _), ?_⟩
      rw [List.append_nil]
      exact post_swap (S := sta X h) pb st1.all (fun cls d H' q => q) fun d kk v H' Hs' Fr st o => kk v H' Hs' Fr (st1.trans st) (o.cool d _ v _)
    | exc er =>
      refine tA.use ok ?_
      have pb := Post.bind pp
      rw [hη] at pb ⊢
      exact pb
    | stuck =>
      have pb := Post.bind pp
      rw [hη] at pb
      exact pb.elim
  refine PySem.W.callWith_K (h₀ := X.base) I.ok.mod.kin hkp (thn (ha.run pos pins s σ H _ I w) fun us s1 ⟨vs, H1, I1, r, q⟩ => ⟨I1.kIn, ?_⟩) he hpl
  exact run_S G (hr.mono hk) hb hd (passAt tk σ) I1 r q
end
end VL
/-! VLCls: instances that do not change once they are made: fields, methods, making. -/
namespace VL
open PySem PySem.Spec L2
/-! ### what the module says of its classes -/
def clsOkB (K : PySem.W.Frag) (C : Addr) : Bool := PySem.W.plainGet K C Str.empty && (PySem.W.hasDictIn K C && (PySem.W.plainOver K C && He.eqO (PySem.W.findIn K (.ref C) "__setattr__") (some (some (.builtin "object.__setattr__")))))
def clsB (K : PySem.W.Frag) : Bool := (List.range nCls).all fun c => match PySem.W.nsIn K mainGlobals (clsTab c).1 with
  | some (some (.ref C)) => clsOkB K C && (clsTab c).2.all fun f => He.eqO (PySem.W.findIn K (.ref C) f) (some none)
  | some none => true
  | _ => false
structure ClT (K : PySem.W.Frag) (mg : Str → Option Value) : Prop where
  cl : ∀ (c : Nat) (C : Addr), c < nCls → mg (clsTab c).1 = some (.ref C) → Cls K C ∧ ∀ f ∈ (clsTab c).2, NoAttr K C f
theorem clT_of {K : PySem.W.Frag} {h : Heap} {mg : Str → Option Value} (X : K.In h) (G : h.Ns mainGlobals mg) (hB : clsB K = true) : ClT K mg := ⟨fun c C hc hm => by
  have z := List.all_eq_true.mp hB c (List.mem_range.mpr hc)
  cases q : PySem.W.nsIn K mainGlobals (clsTab c).1 with
  | none => rw [q] at z; cases z
  | some o =>
    cases o with
    | none =>
      have y := PySem.W.mg_none_of X G q
      rw [hm] at y; cases y
    | some v =>
      have y := PySem.W.mg_of X G q
      rw [hm] at y
      cases y
      rw [q] at z
      have z' : (clsOkB K C && (clsTab c).2.all fun f => He.eqO (PySem.W.findIn K (.ref C) f) (some none)) = true := z
      obtain ⟨z1, z2⟩ := Bool.and_eq_true_iff.mp z'
      refine ⟨?_, fun f hf => He.eqO_ok (List.all_eq_true.mp z2 f hf)⟩
      unfold clsOkB at z1
      simp only [Bool.and_eq_true] at z1
      obtain ⟨a1, a2, a3, a4⟩ := z1
      exact ⟨a1, a2, a3, He.eqO_ok a4⟩⟩
/-! ### o.f -/
def fget : List Str → List D → Str → Option D
  | n :: ns, d :: ds, f => if n = f then some d else fget ns ds f
  | _, _, _ => none
def fldD (f : Str) : D → Res D
  | .ins c ds => if c < nCls then (match fget (clsTab c).2 ds f with | some d => .ok d | none => .stuck) else .stuck
  | _ => .stuck
theorem fget_ok {S : Sta} {H : Hp} {f : Str} {d : D} : ∀ {ns : List Str} {ds : List D} {fs : List (Str × V)}, fget ns ds f = some d → fs.map (·.1) = ns → Reps S H ds (fs.map (·.2)) → f ∈ ns ∧ ∃ v, fs.lookup f = some v ∧ Rep S H d v
  | [], _, _, h, _, _ => by cases h
  | n :: ns, [], _, h, _, _ => by cases h
  | n :: ns, e :: ds, [], h, q, _ => by cases q
  | n :: ns, e :: ds, (k, w) :: fs, h, q, r => by
    obtain ⟨v, ws, e1, r1, r2⟩ := Reps.cons_iff.mp r
    rw [List.map_cons, List.cons.injEq] at e1 q
    obtain ⟨e1, e2⟩ := e1
    obtain ⟨q1, q2⟩ := q
    have e1' : w = v := e1
    have q1' : k = n := q1
    subst e1' q1'
    have h' : (if k = f then some e else fget ns ds f) = some d := h
    by_cases hk : k = f
    · rw [if_pos hk] at h'
      cases h'
      subst hk
      exact ⟨List.mem_cons_self, w, List.lookup_cons_self, r1⟩
    · rw [if_neg hk] at h'
      rw [← e2] at r2
      obtain ⟨m, v2, l2, r3⟩ := fget_ok h' q2 r2
      refine ⟨List.mem_cons_of_mem _ m, v2, ?_, r3⟩
      have hb : (f == k) = false := by simpa using Ne.symm hk
      rw [List.lookup_cons, hb]
      exact l2
theorem fget_miss {m : Str} : ∀ {fs : List (Str × V)}, m ∉ fs.map (·.1) → fs.lookup m = none
  | [], _ => rfl
  | (k, v) :: fs, h => by
    rw [List.map_cons, List.mem_cons, not_or] at h
    have hb : (m == k) = false := by simpa using h.1
    rw [List.lookup_cons, hb]
    exact fget_miss h.2
section
variable {X : Cx} {W : WX} {Γ : List Nat} {h : Option (Nat × Addr × Er)} {e o : Expr} {es : List Expr} {ma mo : M D} {mas : M (List D)} {na no n k j ar c : Nat} {pos p apos : Pos} {x f m : Str} {F : List D → Res D} {dfl : List D}
theorem e_fld (f : Str) (T : ClT X.K X.mg) (he : PE X e (tE (sta X h) W Γ ma na)) (hb : attributeBase e f X.env (eval e X.env) = eval e X.env := by rfl) : PE X (.Attribute e f pos) (tE (sta X h) W Γ (dOp1 (fldD f) ma) 0) := impE (pe_fld he hb) fun σ H Q w => by
  obtain ⟨H0, G0, Hs, F, η, ok, p⟩ := w
  refine tE.use ok ((Post.bind p).imp fun d pd v H1 Hs1 st1 rd ok1 => ?_)
  cases d <;> first | exact pd.elim | skip
  rename_i c ds
  have pd' : Post (sta X h) W σ H (if c < nCls then (match fget (clsTab c).2 ds f with | some d => Res.ok d | none => .stuck) else .stuck) _ := pd
  by_cases hc : c < nCls
  · rw [if_pos hc] at pd'
    cases hg : fget (clsTab c).2 ds f with
    | none => rw [hg] at pd'; exact pd'.elim
    | some d =>
      rw [hg] at pd'
      unfold Rep at rd
      obtain ⟨a, C, dx, fs, rfl, hm, hH, hf, hr⟩ := rd
      obtain ⟨hmem, v2, hl, r2⟩ := fget_ok hg hf hr
      obtain ⟨c1, c2⟩ := T.cl c C hc hm
      exact ⟨a, C, dx, fs, v2, rfl, ok1.sub _ _ hH, c1, c2 f hmem, hl, pd' v2 H1 Hs1 [] st1 r2.own⟩
  · rw [if_neg hc] at pd'; exact pd'.elim
/-! ### o.m(..) -/
structure FnM (P : Program) (w : World) (K : PySem.W.Frag) (mg : Str → Option Value) (base : Heap) (c : Nat) (m : Str) (k ar : Nat) (f : List D → Res D) (n : Nat) (dfl : List D) : Prop where
  ex : ∃ (C fA : Addr) (fd : FuncData) (ps : List Str) (ds : List Value) (dvs : List V), mg (clsTab c).1 = some (.ref C) ∧ Cls K C ∧ Meth K C m fA ∧
    FnOk P w K mg base (L2.CX P w) k fA fd ps (spF ⟨K, mg, none⟩ ar f n) ∧ Vals dvs ds ∧ (∀ H, Reps ⟨K, mg, none⟩ H dfl dvs) ∧ Binds K fd ps ds
def isIns (c : Nat) : D → Res Unit
  | .ins i _ => if i = c then .ok () else .stuck
  | _ => .stuck
def dMeth (c : Nat) (f : List D → Res D) (mo : M D) (mas : M (List D)) : M D := fun η => (mo η).bind fun x => (isIns c x).bind fun _ => (mas η).bind fun as => f (x :: as)
theorem meth_read {C : Addr} {dvs : List V} {Q : VK} {σ : L2.St} {H : Hp} (hm : X.mg (clsTab c).1 = some (.ref C)) (hrep : ∀ H, Reps ⟨X.K, X.mg, none⟩ H dfl dvs) (hml : ∀ η ds, mas η = .ok ds → ds.length = j) (hlen : j + 1 + dfl.length = ar) (hcm : m ∉ (clsTab c).2)
    (w : tE (sta X h) W Γ (dMeth c (fun as => F (as ++ dfl)) mo mas) n σ H Q) : tE (sta X h) W Γ mo no σ H fun x H1 => ∃ a dx fs, x = .ref a ∧ H1 a = some (.ins C dx fs) ∧ fs.lookup m = none ∧ tA (sta X h) W Γ mas σ H1 fun vs H2 => spF ⟨X.K, X.mg, none⟩ ar F n (x :: (vs ++ dvs)) H2 Q (WE W σ) := by
  obtain ⟨H0, G0, Hs, F', η, ok, pp⟩ := w
  refine tE.use ok ((Post.bind pp).imp fun d pd v H1 Hs1 st1 rd ok1 => ?_)
  cases d <;> first | exact pd.elim | skip
  rename_i i ds
  by_cases hi : i = c
  · subst hi
    have pd1 : Post (sta X h) W σ H ((isIns i (.ins i ds)).bind fun _ => (mas η).bind fun as => F ((VL.D.ins i ds :: as) ++ dfl)) _ := pd
    have e1 : isIns i (.ins i ds) = .ok () := if_pos rfl
    rw [e1] at pd1
    have pd2 : Post (sta X h) W σ H ((mas η).bind fun as => F ((VL.D.ins i ds :: as) ++ dfl)) _ := pd1
    have rd0 := rd
    unfold Rep at rd0
    obtain ⟨a, C', dx, fs, rfl, hm', hH, hf, hr⟩ := rd0
    rw [show (sta X h).mg = X.mg from rfl, hm] at hm'
    cases hm'
    refine ⟨a, dx, fs, rfl, ok1.sub _ _ hH, fget_miss (by rw [hf]; exact hcm), ?_⟩
    have pb := Post.bind pd2
    cases hη : mas η with
    | ok as =>
      rw [hη] at pb
      have hl := hml η as hη
      refine tA.use ok1 ?_
      rw [hη]
      refine fun vs H2 Hs2 st2 ras ok2 => ⟨(VL.D.ins i ds :: as) ++ dfl, Hs2, by rw [List.length_append, List.length_cons, hl]; exact hlen, ok2.sub, ?_, ?_⟩
      · exact (Reps.cons_iff.mpr ⟨_, _, rfl, (rd.same st2.shr).cool, ras.cool⟩).append (hrep _)
      · exact post_swap (S := sta X h) pb (st1.all.trans st2.all) (fun cls d H' q => q) fun d kk v H' Hs' Fr st o => kk v H' Hs' Fr ((st1.trans st2).trans st) (o.cool d _ v _)
    | exc er =>
      rw [hη] at pb
      refine tA.use ok1 ?_
      rw [hη]
      exact fun cls d H' c s' => pb cls d H' c (st1.all.trans s')
    | stuck => rw [hη] at pb; exact pb.elim
  · exfalso
    have pd1 : Post (sta X h) W σ H ((isIns c (.ins i ds)).bind fun _ => (mas η).bind fun as => F ((VL.D.ins i ds :: as) ++ dfl)) _ := pd
    have e1 : isIns c (.ins i ds) = .stuck := if_neg hi
    rw [e1] at pd1
    exact pd1.elim
theorem e_meth {pl : Sem Bool} (M : FnM X.prog X.w X.K X.mg X.base c m k ar F n dfl) (hr : Room j X.A) (hk : k ≤ j) (tk : Takes X W) (ho : PE X o (tE (sta X h) W Γ mo no)) (ha : PA X (e :: es) (tA (sta X h) W Γ mas)) (hml : ∀ η ds, mas η = .ok ds → ds.length = es.length + 1) (hlen : es.length + 1 + 1 + dfl.length = ar := by rfl) (hcm : m ∉ (clsTab c).2 := by decide)
    (hst : starEach (e :: es) X.env = (false, eval e X.env) :: starEach es X.env := by rfl) (hpl : (backTo pos (starEach es X.env)).any (·.1) = false := by rfl)
    (ht : eval (.Call (.Attribute o m apos) (e :: es) [] pos) X.env = (do
      let ov ← eval o X.env
      standAt apos.atName
      let (f, first) ← holding [ov] (getMethod ov m pl)
      callWith pos f first (backTo pos (starEach (e :: es) X.env)) (backToKw pos (keywordEach [] X.env))) := by rfl) :
    PE X (.Call (.Attribute o m apos) (e :: es) [] pos) (tE (sta X h) W Γ (dMeth c (fun as => F (as ++ dfl)) mo mas) n) := by
  obtain ⟨C, fA, fd, ps, ds, dvs, hm, hC, hM, G, hd, hrep, hb⟩ := M.ex
  refine ⟨fun pins s σ H Q I w => ?_⟩
  have w2 := meth_read (no := no) hm hrep hml hlen hcm w
  refine PySem.W.methodCall_KW (pl := pl) (thn (ho.run pins s σ H _ I w2) fun u s1 ⟨x, H1, I1, rx, a, dx, fs, ex, ea, l, q⟩ => ?_) ht
  subst ex
  obtain rfl : u = Value.ref a := rx
  refine getmeth_ok I1 ea hC hM l ?_
  refine PySem.W.callWith_K (first := [.ref a]) (h₀ := X.base) I.ok.mod.kin hM.kp (thn (ha.run pos pins s1 σ H1 _ I1 q) fun us s2 ⟨vs, H2, I2, r, q2⟩ => ⟨I2.kIn, ?_⟩) hst hpl
  exact run_S (us := .ref a :: us) (vs := .ref a :: vs) G (hr.mono hk) hb hd (passAt tk σ) I2 (.cons rfl r) q2
theorem e_meth0 {pl : Sem Bool} (M : FnM X.prog X.w X.K X.mg X.base c m k ar F n dfl) (hr : Room j X.A) (hk : k ≤ j) (tk : Takes X W) (ho : PE X o (tE (sta X h) W Γ mo no)) (hlen : 1 + dfl.length = ar := by rfl) (hcm : m ∉ (clsTab c).2 := by decide)
    (ht : eval (.Call (.Attribute o m apos) [] [] pos) X.env = (do
      let ov ← eval o X.env
      standAt apos.atName
      let (f, first) ← holding [ov] (getMethod ov m pl)
      callWith pos f first (backTo pos (starEach [] X.env)) (backToKw pos (keywordEach [] X.env))) := by rfl) :
    PE X (.Call (.Attribute o m apos) [] [] pos) (tE (sta X h) W Γ (dMeth c (fun as => F (as ++ dfl)) mo aNil) n) := by
  obtain ⟨C, fA, fd, ps, ds, dvs, hm, hC, hM, G, hd, hrep, hb⟩ := M.ex
  refine ⟨fun pins s σ H Q I w => ?_⟩
  have w2 := meth_read (no := no) (j := 0) hm hrep (fun η ds h => by cases h; rfl) (by omega) hcm w
  refine PySem.W.methodCall_KW (pl := pl) (thn (ho.run pins s σ H _ I w2) fun u s1 ⟨x, H1, I1, rx, a, dx, fs, ex, ea, l, q⟩ => ?_) ht
  subst ex
  obtain rfl : u = Value.ref a := rx
  refine getmeth_ok I1 ea hC hM l ?_
  obtain ⟨q1, q2, q3, F', η, ok, q5⟩ := q
  have q6 := q5 [] H1 q3 (Step.refl ok.sub) (Reps.nil_iff.mpr rfl)
  exact PySem.W.callWith_K0 (first := [.ref a]) I1.kIn hM.kp (run_S (us := [.ref a]) (vs := [.ref a]) G (hr.mono hk) hb hd (passAt tk σ) I1 (.cons rfl .nil) q6)
/-! ### C(..) -/
def spI (K : PySem.W.Frag) (mg : Str → Option Value) (c ar : Nat) (f : List D → Res D) : Sp := fun vs H Q E => ∃ (x C dx : Addr) (ds : List D) (Hs H1 : Hp) (vs' : List V), vs = .ref x :: vs' ∧ H = upd (upd H1 dx (.own x)) x (.ins C dx []) ∧ H1 x = none ∧ H1 dx = none ∧ dx ≠ x ∧
  mg (clsTab c).1 = some (.ref C) ∧ ds.length = ar ∧ Same Hs H1 ∧ Reps ⟨K, mg, none⟩ Hs ds vs' ∧
  Post ⟨K, mg, none⟩ (fun cls d _ H' => E cls d H') [] H1 (f ds) fun d => ∀ (H' Hs' : Hp), Step H1 Hs H' Hs' [] → Rep ⟨K, mg, none⟩ Hs' d (.ref x) → Q .non H'
structure FnI (P : Program) (w : World) (K : PySem.W.Frag) (mg : Str → Option Value) (base : Heap) (c k ar : Nat) (f : List D → Res D) (dfl : List D) : Prop where
  ex : ∃ (C fA : Addr) (fd : FuncData) (ps : List Str) (ds : List Value) (dvs : List V), mg (clsTab c).1 = some (.ref C) ∧ Mk K C fA ∧
    FnOk P w K mg base (L2.CX P w) k fA fd ps (spI K mg c ar f) ∧ Vals dvs ds ∧ (∀ H, Reps ⟨K, mg, none⟩ H dfl dvs) ∧ Binds K fd ps ds
theorem run_makeS {C fA : Addr} {fd : FuncData} {ps : List Str} {sp : Sp} {E : L2.St → XK} {dvs : List V} {ds : List Value} {pins : List (Addr × Obj)} {σ : L2.St} {H : Hp} {s : Shared} {Q : VK} {us : List Value} {vs : List V} (M : Mk X.K C fA) (G : FnOk X.prog X.w X.K X.mg X.base (L2.CX X.prog X.w) k fA fd ps sp) (hr : Room (k + 1) X.A) (hb : Binds X.K fd ps ds) (hd : Vals dvs ds)
    (hx : PassesAt (L2.CX X.prog X.w) X σ (E σ)) (I : Inv X pins σ H s) (r : Vals vs us)
    (h : ∀ x dx, H x = none → H dx = none → dx ≠ x → sp (.ref x :: (vs ++ dvs)) (upd (upd H dx (.own x)) x (.ins C dx [])) (fun v H2 => v = .non ∧ Q (.ref x) H2) (E σ)) :
    wpAny (model X.prog X.w) X.A (call (.ref C) us) (EP X pins σ Q) X.xe s := by
  have hq := h (s.heap.objs.size + 1) s.heap.objs.size (I.hok.fresh (Nat.le_succ _)) (I.hok.fresh (Nat.le_refl _)) (Nat.ne_of_lt (Nat.lt_succ_self _))
  have I2 := Inv.made (C := C) I
  have r2 : Vals (V.ref (s.heap.objs.size + 1) :: (vs ++ dvs)) (Value.ref (s.heap.objs.size + 1) :: (us ++ ds)) := .cons rfl (r.append hd)
  have hl : (Value.ref (s.heap.objs.size + 1) :: us ++ ds).length = ps.length := by
    have e := r2.length
    rw [G.len _ _ _ _ hq] at e
    exact e.symm
  refine wpAny_call (make_map (f := fA) I.kIn M.makes M.init (beq_iff_eq.mp M.fn) (codeAny_mono (G.run _ X.stack _ _ ⟨Value.ref (s.heap.objs.size + 1) :: us, []⟩ (Value.ref (s.heap.objs.size + 1) :: (us ++ ds)) _ _ (E σ) (hr.make C us [])
    (I2.env0.make C us []) (hb _ (Value.ref (s.heap.objs.size + 1) :: us) I2.kIn hl) r2 hq) fun r s' hq' => ?_))
  cases r with
  | error e => exact hx pins _ _ e s' I2 hq'
  | ok fl =>
    cases fl with
    | ret u =>
      obtain ⟨v, H', I3, rv, ev, q3⟩ := I2.after hq'
      subst ev
      exact ⟨rv, ⟨V.ref (s.heap.objs.size + 1), H', I3, rfl, q3⟩⟩
    | next => exact False.elim hq'
    | brk => exact False.elim hq'
    | cont => exact False.elim hq'
theorem e_make (M : FnI X.prog X.w X.K X.mg X.base c k ar F dfl) (hr : Room j X.A) (hk : k + 1 ≤ j) (tk : Takes X W) (ha : PA X (e :: es) (tA (sta X h) W Γ mas)) (hml : ∀ η ds, mas η = .ok ds → ds.length = es.length + 1) (hx : (clsTab c).1 = x := by rfl) (hlen : es.length + 1 + dfl.length = ar := by rfl) (hg : Gl X x := by rfl) (hdb : (x == ("__debug__" : Str)) = false := by decide)
    (he : starEach (e :: es) X.env = (false, eval e X.env) :: starEach es X.env := by rfl) (hpl : (backTo pos (starEach es X.env)).any (·.1) = false := by rfl) :
    PE X (.Call (.Name x p) (e :: es) [] pos) (tE (sta X h) W Γ (dCall (fun as => F (as ++ dfl)) mas) 0) := by
  obtain ⟨C, fA, fd, ps, ds, dvs, hm, hM, G, hd, hrep, hb⟩ := M.ex
  subst hx
  refine ⟨fun pins s σ H Q I w => ?_⟩
  obtain ⟨H0, G0, Hs, F', η, ok, pp⟩ := w
  refine wpAny_Call_Name_kw (ld_glob I hg hm ?_ hdb)
  have w : tA (sta X h) W Γ mas σ H fun vs H1 => ∀ x dx, H1 x = none → H1 dx = none → dx ≠ x → spI X.K X.mg c ar F (.ref x :: (vs ++ dvs)) (upd (upd H1 dx (.own x)) x (.ins C dx [])) (fun v H2 => v = .non ∧ Q (.ref x) H2) (WE W σ) := by
    cases hη : mas η with
    | ok as =>
      have hl := hml η as hη
      refine tA.use ok ?_
      have pb := Post.bind pp
      rw [hη] at pb ⊢
      refine fun vs H1 Hs1 st1 r1 ok1 x dx n1 n2 n3 => ⟨x, C, dx, as ++ dfl, Hs1, H1, vs ++ dvs, rfl, rfl, n1, n2, n3, hm, by rw [List.length_append, hl]; exact hlen, ok1.sub, (r1.cool).append (hrep _), ?_⟩
      exact post_swap (S := sta X h) pb st1.all (fun cls d H' q => q) fun d kk H' Hs' st o => ⟨rfl, kk (.ref x) H' Hs' [] (st1.trans st) ((o.cool).own)⟩
    | exc er =>
      refine tA.use ok ?_
      have pb := Post.bind pp
      rw [hη] at pb ⊢
      exact pb
    | stuck =>
      have pb := Post.bind pp
      rw [hη] at pb
      exact pb.elim
  refine PySem.W.callWith_K (h₀ := X.base) I.ok.mod.kin hM.kp (thn (ha.run pos pins s σ H _ I w) fun us s1 ⟨vs, H1, I1, r, q⟩ => ⟨I1.kIn, ?_⟩) he hpl
  exact run_makeS hM G (hr.mono hk) hb hd (passAt tk σ) I1 r q
end
/-! ### __init__ -/
section
variable {S : Sta} {H0 H0' G0 H H' Hs : Hp} {Γ : List Nat} {F : Nat → List Addr} {σ : L2.St} {η : Env}
theorem Step.low {Fr : List Addr} (a : Step H0 G0 H Hs Fr) (s : Same H0' H0) : Step H0' G0 H Hs Fr := ⟨s.trans a.all, a.shr, a.sub, fun x h1 ⟨o, h2⟩ => a.new x h1 ⟨o, s x o h2⟩, fun x hx => ⟨s.free (a.fr x hx).1, (a.fr x hx).2⟩, a.nd⟩
theorem EOk.low (ok : EOk S H0 G0 H Hs Γ F σ η) (s : Same H0' H0) : EOk S H0' G0 H Hs Γ F σ η := ⟨ok.st.low s, ok.len, ok.slot, fun i a ha => ⟨(ok.hid i a ha).1, s.free (ok.hid i a ha).2.1, (ok.hid i a ha).2.2⟩, ok.disj, ok.nd, ok.hot⟩
theorem same_upd {HB : Hp} {x : Addr} {o : HO} (n : HB x = none) : Same HB (upd HB x o) := fun b u e => by rw [upd_ne (ne_of_none e n)]; exact e
/-- the object x of the ground holds another thing -/
theorem EOk.repl {HB : Hp} {x : Addr} {o o' : HO} (ok : EOk S (upd HB x o) G0 H Hs Γ F σ η) (n : HB x = none) (g : G0 x = none) : EOk S (upd HB x o') G0 (upd H x o') Hs Γ F σ η := by
  have hx : Hs x = none := ok.st.new x g ⟨o, upd_same⟩
  have hF : ∀ i, x ∉ F i := fun i hi => by
    have z := (ok.hid i x hi).2.1
    rw [upd_same] at z; cases z
  refine ⟨⟨fun b u e => ?_, ok.st.shr, fun b u e => ?_, fun a h1 ⟨u, h2⟩ => ?_, fun _ z => absurd z List.not_mem_nil, List.nodup_nil⟩, ok.len, fun i d hd => ?_, fun i a ha => ?_, ok.disj, ok.nd, ok.hot⟩
  · by_cases hb : b = x
    · subst hb; rw [upd_same] at e ⊢; exact e
    · rw [upd_ne hb] at e ⊢
      exact ok.st.all b u (by rw [upd_ne hb]; exact e)
  · have hb : b ≠ x := fun q => by rw [q, hx] at e; cases e
    rw [upd_ne hb]; exact ok.st.sub b u e
  · by_cases ha : a = x
    · rw [ha]; exact hx
    · rw [upd_ne ha] at h2
      exact ok.st.new a h1 ⟨u, by rw [upd_ne ha]; exact h2⟩
  · obtain ⟨v, h1, h2⟩ := ok.slot i d hd
    refine ⟨v, h1, h2.move (Same.refl _) d _ v _ fun a ha => upd_ne fun q => hF i (by rw [← q]; exact ha)⟩
  · obtain ⟨h1, h2, u, h3⟩ := ok.hid i a ha
    have hb : a ≠ x := fun q => hF i (by rw [← q]; exact ha)
    rw [upd_ne hb] at h2
    exact ⟨h1, by rw [upd_ne hb]; exact h2, u, by rw [upd_ne hb]; exact h3⟩
end
def sInit (c : Nat) (mas : M (List D)) : Env → Fl := fun η => onRes (mas η) η fun ds => if ds.length = (clsTab c).2.length then .nx (η.set 0 (some (.ins c ds))) else .stuck
section
variable {X : Cx} {c : Ct} {Γ Γ1 Γ2 : List Nat} {e : Expr} {st : Stmt} {sts rest : List Stmt} {ma : M D} {mas : M (List D)} {m m1 m2 : Env → Fl} {na k : Nat} {pos : Pos} {f : Str} {x C dx : Addr} {HB G0 : Hp}
/-- ahead of the fields: the new instance x is bare -/
def tSI (x C dx : Addr) (HB G0 : Hp) (c : Ct) (Γ : List Nat) (m : Env → Fl) (Γ' : List Nat) : TS := fun D σ H => ∃ (Hs : Hp) (F : Nat → List Addr) (η : Env), EOk c.S (upd HB x (.ins C dx [])) G0 H Hs Γ F σ η ∧ PostS c HB G0 Γ' (m η) D
structure Bare (X : Cx) (c : Ct) (k : Nat) (x C : Addr) (HB G0 : Hp) : Prop where
  hot : c.S = sta X (some (0, x, .keyE))
  n : HB x = none
  g : G0 x = none
  mg : X.mg (clsTab k).1 = some (.ref C)
  kk : k < nCls
theorem ss_consI (B : Bare X c k x C HB G0) (h1 : PS X st (tS c Γ m1 Γ1)) (h2 : PSs X rest (tSI x C dx HB G0 c Γ1 m2 Γ2)) : PSs X (st :: rest) (tSI x C dx HB G0 c Γ (sSeq m1 m2) Γ2) := impSs (pss_cons h1 h2) fun D σ H w => by
  obtain ⟨Hs, F, η, ok, p⟩ := w
  refine ⟨_, _, Hs, F, η, ok, ?_⟩
  have sm : Same HB (upd HB x (.ins C dx [])) := same_upd B.n
  unfold sSeq at p
  cases hm : m1 η with
  | nx η' =>
    rw [hm] at p
    exact fun σ' H' Hs' F' ok' => ⟨Hs', F', η', ok', p⟩
  | rt d =>
    rw [hm] at p
    exact fun v H' Hs' Fr st' o => p v H' Hs' Fr (st'.low sm) o
  | bk η' =>
    rw [hm] at p
    exact fun σ' H' Hs' F' ok' => p σ' H' Hs' F' (ok'.low sm)
  | ct η' =>
    rw [hm] at p
    exact fun σ' H' Hs' F' ok' => p σ' H' Hs' F' (ok'.low sm)
  | ex er η' =>
    rw [hm] at p
    exact fun cls dd σ' H' Hs' F' hc ok' => p cls dd σ' H' Hs' F' hc (ok'.low sm)
  | stuck => rw [hm] at p; exact p.elim
/-- among the fields: ds are there, mas are to come -/
def contF (k : Nat) (ds : List D) (mas : M (List D)) (m2 : Env → Fl) (η : Env) : Fl := match onRes (mas η) η (fun es => if (ds ++ es).length = (clsTab k).2.length then .nx (η.set 0 (some (.ins k (ds ++ es)))) else .stuck) with
  | .nx η' => m2 η'
  | r => r
def tSF (k : Nat) (x C dx : Addr) (HB G0 : Hp) (c : Ct) (Γ : List Nat) (j : Nat) (mas : M (List VL.D)) (m2 : Env → Fl) (Γ' : List Nat) : TS := fun D σ H => ∃ (Hs : Hp) (F : Nat → List Addr) (η : Env) (ds : List VL.D) (fs : List (Str × V)), EOk c.S (upd HB x (.ins C dx fs)) G0 H Hs Γ F σ η ∧
  ds.length = j ∧ fs.map (·.1) = (clsTab k).2.take j ∧ Reps c.S Hs ds (fs.map (·.2)) ∧ PostS c HB G0 Γ' (contF k ds mas m2 η) D
theorem ss_begin (h : PSs X sts (tSF k x C dx HB G0 c Γ 0 mas m2 Γ2)) : PSs X sts (tSI x C dx HB G0 c Γ (sSeq (sInit k mas) m2) Γ2) := impSs h fun D σ H w => by
  obtain ⟨Hs, F, η, ok, p⟩ := w
  refine ⟨Hs, F, η, [], [], ok, rfl, rfl, Reps.nil_iff.mpr rfl, ?_⟩
  have e : sSeq (sInit k mas) m2 η = contF k [] mas m2 η := rfl
  rw [← e]; exact p
theorem take_succ_get {α : Type} : ∀ (l : List α) (j : Nat) (a : α), l[j]? = some a → l.take (j + 1) = l.take j ++ [a]
  | [], j, a, h => by simp at h
  | b :: l, 0, a, h => by
    have : b = a := by simpa using h
    simp [this]
  | b :: l, j + 1, a, h => by
    rw [List.take_succ_cons, take_succ_get l j a (by simpa using h), List.take_succ_cons, List.cons_append]
theorem putF_new {g : Str} {v : V} : ∀ {fs : List (Str × V)}, g ∉ fs.map (·.1) → putF g v fs = fs ++ [(g, v)]
  | [], _ => rfl
  | (k, w) :: fs, h => by
    rw [List.map_cons, List.mem_cons, not_or] at h
    show (if k = g then (k, v) :: fs else (k, w) :: putF g v fs) = _
    rw [if_neg (Ne.symm h.1), putF_new h.2]; rfl
theorem ss_fld {p1 p2 : Pos} {s0 : Str} {j : Nat} (B : Bare X c k x C HB G0) (T : ClT X.K X.mg) (he : PE X e (tE (sta X (some (0, x, .keyE))) c.W Γ ma na)) (next : PSs X rest (tSF k x C dx HB G0 c Γ (j + 1) mas m2 Γ2))
    (hf : (clsTab k).2[j]? = some f := by rfl) (hnew : f ∉ (clsTab k).2.take j := by decide) (hj : j < 100 := by decide) (hN : X.N[0]? = some s0 := by rfl) (hv : Vis X.env.scope s0 := by first | exact Or.inl rfl | exact Or.inr (Or.inl rfl) | exact Or.inr (Or.inr rfl)) (hd : (s0 == ("__debug__" : Str)) = false := by decide)
    (hcd : (s0 == ("__classdict__" : Str)) = false := by decide) (hs : swapsWith e (some (.Attribute (.Name s0 p1) f p2)) pos.line X.env = pure false := by rfl) :
    PSs X (.Assign [.Attribute (.Name s0 p1) f p2] e pos :: rest) (tSF k x C dx HB G0 c Γ j (aCons ma mas) m2 Γ2) := impSs (pss_cons (ps_fld (pe_var hN hv hd hcd) he hs) next) fun D σ H w => by
  obtain ⟨Hs, F, η, ds, fs, ok, hl, hfs, hr, p⟩ := w
  have okl := ok.low (same_upd B.n)
  obtain ⟨cl, na'⟩ := T.cl k C B.kk B.mg
  have hS := B.hot
  have p1 : PostS c HB G0 Γ2 (onRes (ma η) η fun d => contF k (ds ++ [d]) mas m2 η) D := by
    unfold contF aCons at p
    cases hm : ma η with
    | ok d =>
      rw [hm] at p
      have p2 : PostS c HB G0 Γ2 (match onRes ((mas η).bind fun xs => .ok (d :: xs)) η (fun es => if (ds ++ es).length = (clsTab k).2.length then Fl.nx (η.set 0 (some (.ins k (ds ++ es)))) else .stuck) with | .nx η' => m2 η' | r => r) D := p
      show PostS c HB G0 Γ2 (contF k (ds ++ [d]) mas m2 η) D
      unfold contF
      cases hk : mas η with
      | ok es =>
        rw [hk] at p2
        have e1 : ds ++ [d] ++ es = ds ++ d :: es := by simp
        show PostS c HB G0 Γ2 (match (if (ds ++ [d] ++ es).length = (clsTab k).2.length then Fl.nx (η.set 0 (some (.ins k (ds ++ [d] ++ es)))) else .stuck) with | .nx η' => m2 η' | r => r) D
        rw [e1]; exact p2
      | exc er => rw [hk] at p2; exact p2
      | stuck => rw [hk] at p2; exact p2
    | exc er => rw [hm] at p; exact p
    | stuck => rw [hm] at p; exact p
  have pp := onRes_post okl p1
  rw [hS] at pp ok hr
  refine tE.use ok (pp.imp fun d kk v H1 Hs1 st1 rd ok1 => ?_)
  have hx : σ[0]? = some (some (.ref x)) := ok.hot 0 x .keyE rfl
  have hH1 : H1 x = some (.ins C dx fs) := ok1.st.all x _ upd_same
  refine ⟨.ref x, hx, x, C, dx, fs, rfl, hH1, cl, na' f (List.mem_of_getElem? hf), ?_, ?_⟩
  · have z := congrArg List.length hfs
    rw [List.length_map, List.length_take] at z
    omega
  · have hnf : f ∉ fs.map (·.1) := by rw [hfs]; exact hnew
    rw [putF_new hnf]
    refine ⟨Hs1, F, η, ds ++ [d], fs ++ [(f, v)], ?_, by rw [List.length_append, hl]; rfl, ?_, ?_, kk⟩
    · rw [hS]
      exact ok1.repl B.n B.g
    · rw [List.map_append, hfs, take_succ_get _ _ _ hf]; rfl
    · rw [hS, List.map_append]
      exact (hr.same st1.shr).append (Reps.one rd)
theorem ss_fin {j : Nat} (B : Bare X c k x C HB G0) (hG : Γ.getD 0 0 = 0 := by rfl) (hj : j = (clsTab k).2.length := by rfl) (h2 : PSs X rest (tS c Γ m2 Γ2)) : PSs X rest (tSF k x C dx HB G0 c Γ j aNil m2 Γ2) := impSs h2 fun D σ H w => by
  obtain ⟨Hs, F, η, ds, fs, ok, hl, hfs, hr, p⟩ := w
  have hx : Hs x = none := ok.st.new x B.g ⟨_, upd_same⟩
  have hH : H x = some (.ins C dx fs) := ok.st.all x _ upd_same
  have hF : ∀ i, x ∉ F i := fun i hi => by
    have z := (ok.hid i x hi).2.1
    rw [upd_same] at z; cases z
  have sm : Same Hs (upd Hs x (.ins C dx fs)) := same_upd hx
  have hS := B.hot
  have h0 : σ[0]? = some (some (.ref x)) := by
    have := ok.hot 0 x .keyE (by rw [hS])
    exact this
  have hlen : 0 < η.length := by
    rw [← ok.len]
    exact (List.getElem?_eq_some_iff.mp h0).1
  have e : contF k ds aNil m2 η = m2 (η.set 0 (some (.ins k ds))) := by
    unfold contF aNil
    show (match (if (ds ++ []).length = (clsTab k).2.length then Fl.nx (η.set 0 (some (.ins k (ds ++ [])))) else .stuck) with | .nx η' => m2 η' | r => r) = _
    rw [List.append_nil, if_pos (by rw [hl]; exact hj)]
  rw [e] at p
  refine ⟨HB, G0, upd Hs x (.ins C dx fs), fun i => if i = 0 then [] else F i, η.set 0 (some (.ins k ds)), ?_, p⟩
  have okl := ok.low (same_upd B.n)
  refine ⟨⟨okl.st.all, ok.st.shr.trans sm, fun b u q => ?_, fun a h1 ⟨u, h2⟩ => ?_, fun _ z => absurd z List.not_mem_nil, List.nodup_nil⟩, by rw [List.length_set]; exact ok.len, fun i d hd => ?_, fun i a ha => ?_, fun i j a h1 h2 => ?_, fun i => ?_, ok.hot⟩
  · by_cases hb : b = x
    · subst hb; rw [upd_same] at q; rw [hH]; exact q
    · rw [upd_ne hb] at q; exact ok.st.sub b u q
  · have ha : a ≠ x := fun q => by rw [q, B.n] at h2; cases h2
    rw [upd_ne ha]
    exact okl.st.new a h1 ⟨u, h2⟩
  · rw [List.getElem?_set] at hd
    by_cases hi : 0 = i
    · subst hi
      rw [if_pos rfl, if_pos hlen] at hd
      have ed : VL.D.ins k ds = d := by simpa using hd
      subst ed
      refine ⟨.ref x, h0, ?_⟩
      rw [hG, if_pos rfl]
      refine Own.zero.mpr ⟨rfl, ?_⟩
      unfold Rep
      refine ⟨x, C, dx, fs, rfl, by rw [hS]; exact B.mg, upd_same, ?_, hr.same sm⟩
      rw [hfs, hj, List.take_length]
    · rw [if_neg hi] at hd
      obtain ⟨v, q1, q2⟩ := ok.slot i d hd
      refine ⟨v, q1, ?_⟩
      rw [if_neg (Ne.symm hi)]
      exact q2.move sm d _ v _ fun _ _ => rfl
  · by_cases hi : i = 0
    · simp [hi] at ha
    · rw [if_neg hi] at ha
      obtain ⟨q1, q2, q3⟩ := okl.hid i a ha
      refine ⟨?_, q2, q3⟩
      rw [upd_ne fun q => hF i (by rw [← q]; exact ha)]
      exact q1
  · by_cases hi : i = 0
    · simp [hi] at h1
    · by_cases hj' : j = 0
      · simp [hj'] at h2
      · rw [if_neg hi] at h1
        rw [if_neg hj'] at h2
        exact ok.disj i j a h1 h2
  · by_cases hi : i = 0
    · simp [hi]
    · simp only [hi, if_false]; exact ok.nd i
end
def mkInit (n m : Nat) (body : Env → Fl) : List D → Res D := fun ds => if ds.length = n then (match body (none :: (ds.map some ++ List.replicate (m - n - 1) none)) with
  | .nx η => (match η[0]? with | some (some d) => .ok d | _ => .stuck)
  | .ex e _ => .exc e
  | _ => .stuck) else .stuck
abbrev initCt (K : PySem.W.Frag) (mg : Str → Option Value) (E : XK) (x : Addr) : Ct := ⟨⟨K, mg, some (0, x, .keyE)⟩, fun cls d _ H => E cls d H, 0, [], []⟩
theorem init_ok {P : Program} {w : World} {K : PySem.W.Frag} {mg : Str → Option Value} {base : Heap} {x qual : Str} {params : Arguments} {body : List Stmt} {scope : Scope} {dvs : List V} {kws : List (Str × V)} {fA : Addr} {fd : FuncData} {N ps : List Str} {k ar c : Nat} {m : Env → Fl} {Γ Γ' : List Nat}
    (F : FunD K x qual params body scope dvs kws fA fd) (Sc : FnScope N ps scope) (har : ps.length = ar + 1) (hc : c < nCls) (hΓ : Γ.all (· == 0) = true) (hΓ' : Γ'.getD 0 0 = 0)
    (hbody : ∀ (cdv : Value) (A : Around) (outer : List PySem.Env) (s : Shared) (H : Hp) (E : XK) (x C dx : Addr) (HB G0 : Hp), Room k (A.deeper (PyProof.Rows.envOfC qual scope s.heap.objs.size fA cdv)) →
      Bare (cxOf (L2.CX P w) P w K mg base N qual scope fA cdv A outer s H E) (initCt K mg E x) c x C HB G0 → PSs (cxOf (L2.CX P w) P w K mg base N qual scope fA cdv A outer s H E) body (tSI x C dx HB G0 (initCt K mg E x) Γ m Γ')) :
    FnOk P w K mg base (L2.CX P w) (k + 1) fA fd ps (spI K mg c ar (mkInit ar N.length m)) := by
  refine F.ok Sc (fun vs H Q E h => ?_) (fun cdv A outer s H vs Q E hr h => ?_)
  · obtain ⟨x, C, dx, ds, Hs, H1, vs', rfl, _, _, _, _, _, h1, _, h3, _⟩ := h
    rw [List.length_cons, h3.length, h1, har]
  · obtain ⟨x, C, dx, ds, Hs, H1, vs', rfl, rfl, n1, n2, n3, hm, h1, h2, h3, post⟩ := h
    have hB : Bare (cxOf (L2.CX P w) P w K mg base N qual scope fA cdv A outer s (upd (upd H1 dx (.own x)) x (.ins C dx [])) E) (initCt K mg E x) c x C (upd H1 dx (.own x)) Hs := ⟨rfl, by rw [upd_ne (Ne.symm n3)]; exact n1, h2.free n1, hm, hc⟩
    refine ⟨tSI x C dx (upd H1 dx (.own x)) Hs (initCt K mg E x) Γ m Γ', hbody cdv A outer s _ E x C dx _ Hs hr hB, ?_⟩
    have hvl := h3.length
    unfold mkInit at post
    rw [if_pos h1] at post
    have sm1 : Same H1 (upd H1 dx (.own x)) := same_upd n2
    have sm2 : Same (upd H1 dx (.own x)) (upd (upd H1 dx (.own x)) x (.ins C dx [])) := same_upd hB.n
    have eS : ∀ (i : Nat) (d : D), (none :: (ds.map some ++ List.replicate (N.length - ar - 1) none) : Env)[i]? = some (some d) → ∃ j, i = j + 1 ∧ ds[j]? = some d := fun i d e => by
      cases i with
      | zero => simp at e
      | succ j =>
        refine ⟨j, rfl, ?_⟩
        rw [List.getElem?_cons_succ, List.getElem?_append] at e
        split at e
        · simpa using e
        · rw [List.getElem?_replicate] at e
          split at e <;> cases e
    refine ⟨Hs, fun _ => [], none :: (ds.map some ++ List.replicate (N.length - ar - 1) none), ⟨⟨fun _ _ e => e, Same.refl _, (h2.trans sm1).trans sm2, fun a q _ => q, fun _ z => absurd z List.not_mem_nil, List.nodup_nil⟩, ?_, fun i d e => ?_, fun _ _ z => absurd z List.not_mem_nil, fun _ _ _ z => absurd z List.not_mem_nil, fun _ => List.nodup_nil, fun i a e q => ?_⟩, ?_⟩
    · unfold L2.start
      simp [hvl, h1]
      omega
    · obtain ⟨j, rfl, e'⟩ := eS i d e
      obtain ⟨v, e1, e2⟩ := h3.get e'
      refine ⟨v, ?_, ?_⟩
      · unfold L2.start
        have hlt : j < vs'.length := (List.getElem?_eq_some_iff.mp e1).1
        rw [List.getElem?_append_left (by simpa using hlt)]
        simp [e1]
      · rw [allz hΓ (j + 1)]
        exact (e2.cool).own
    · have q' : some (0, x, Er.keyE) = some (i, a, e) := q
      cases q'
      unfold L2.start
      simp
    · cases hb : m (none :: (ds.map some ++ List.replicate (N.length - ar - 1) none)) with
      | nx η' =>
        rw [hb] at post
        intro σ' H' Hs' F' ok'
        have post' : Post ⟨K, mg, none⟩ (fun cls d _ H' => E cls d H') [] H1 (match η'[0]? with | some (some d) => Res.ok d | _ => .stuck) fun d => ∀ (H' Hs' : Hp), Step H1 Hs H' Hs' [] → Rep ⟨K, mg, none⟩ Hs' d (.ref x) → Q .non H' := post
        cases h0 : η'[0]? with
        | none => rw [h0] at post'; exact post'.elim
        | some o =>
          rw [h0] at post'
          cases o with
          | none => exact post'.elim
          | some d =>
            obtain ⟨v, q1, q2⟩ := ok'.slot 0 d h0
            rw [hΓ'] at q2
            have q3 : σ'[0]? = some (some (.ref x)) := ok'.hot 0 x .keyE rfl
            rw [q3] at q1
            have q4 : V.ref x = v := by simpa using q1
            subst q4
            exact post' H' Hs' (ok'.st.low sm1) ((Own.zero.mp q2).2.cool)
      | rt d => rw [hb] at post; exact post.elim
      | ex er η' =>
        rw [hb] at post
        have post' : ∀ (cls : Value) (d : Option Addr) (H' : Hp), clsIs ⟨K, mg, none⟩ er cls d → Same H1 H' → E cls d H' := post
        exact fun cls dd σ' H' Hs' F' hcl ok' => post' cls dd H' hcl (sm1.trans ok'.st.all)
      | bk η' => rw [hb] at post; exact post.elim
      | ct η' => rw [hb] at post; exact post.elim
      | stuck => rw [hb] at post; exact post.elim
/-! ### as the calls take them -/
section
variable {P : Program} {w : World} {K : PySem.W.Frag} {mg : Str → Option Value} {base : Heap} {m : Str} {c k ar n : Nat} {f : List D → Res D} {C fA : Addr} {fd : FuncData} {ps : List Str} {dfl : List D} {dvs : List V}
theorem FnM_of (g : mg (clsTab c).1 = some (.ref C)) (T : ClT K mg) (hc : c < nCls) (M : Meth K C m fA) (o : FnOk P w K mg base (L2.CX P w) k fA fd ps (spF ⟨K, mg, none⟩ ar f n)) (b : Binds K fd ps []) : FnM P w K mg base c m k ar f n [] := ⟨⟨C, fA, fd, ps, [], [], g, (T.cl c C hc g).1, M, o, .nil, fun _ => Reps.dflt, b⟩⟩
theorem FnM_d (g : mg (clsTab c).1 = some (.ref C)) (T : ClT K mg) (hc : c < nCls) (M : Meth K C m fA) (o : FnOk P w K mg base (L2.CX P w) k fA fd ps (spF ⟨K, mg, none⟩ ar f n)) (hr : ∀ H, Reps ⟨K, mg, none⟩ H dfl dvs) (b : ∃ ds, Vals dvs ds ∧ Binds K fd ps ds) : FnM P w K mg base c m k ar f n dfl := by
  obtain ⟨ds, h1, h2⟩ := b
  exact ⟨⟨C, fA, fd, ps, ds, dvs, g, (T.cl c C hc g).1, M, o, h1, hr, h2⟩⟩
theorem FnI_of (g : mg (clsTab c).1 = some (.ref C)) (M : Mk K C fA) (o : FnOk P w K mg base (L2.CX P w) k fA fd ps (spI K mg c ar f)) (b : Binds K fd ps []) : FnI P w K mg base c k ar f [] := ⟨⟨C, fA, fd, ps, [], [], g, M, o, .nil, fun _ => Reps.dflt, b⟩⟩
theorem FnI_d (g : mg (clsTab c).1 = some (.ref C)) (M : Mk K C fA) (o : FnOk P w K mg base (L2.CX P w) k fA fd ps (spI K mg c ar f)) (hr : ∀ H, Reps ⟨K, mg, none⟩ H dfl dvs) (b : ∃ ds, Vals dvs ds ∧ Binds K fd ps ds) : FnI P w K mg base c k ar f dfl := by
  obtain ⟨ds, h1, h2⟩ := b
  exact ⟨⟨C, fA, fd, ps, ds, dvs, g, M, o, h1, hr, h2⟩⟩
end
/-- a number of the module -/
theorem e_gint {X : Cx} {W : WX} {Γ : List Nat} {h : Option (Nat × Addr × Er)} {n : Nat} {pos : Pos} {x : Str} (i : Int) (hm : ∃ t, X.mg x = some (.int i t)) (hg : Gl X x := by rfl) (hdb : (x == ("__debug__" : Str)) = false := by decide) : PE X (.Name x pos) (tE (sta X h) W Γ (dLit (.int i)) n) := by
  obtain ⟨t, hm⟩ := hm
  exact e_lit (v := .int i) (pe_glob hg hm ⟨_, rfl⟩ hdb) rfl fun _ _ => by unfold Rep; rfl
end VL
/-! VLAug: x[i] op= e. -/
namespace VL
open PySem PySem.Spec PyProof PyProof.Rows L2
theorem pget_list {X : Cx} : PGet X (rIxL X.K) := by
  intro pins s σ H x y v u Q I rx ry h
  obtain ⟨p, xs, i, z, rfl, rfl, hq, he, q⟩ := h
  cases rx
  obtain ⟨t, rfl⟩ := ry
  obtain ⟨its, r, pl, hz⟩ := I.list hq
  obtain ⟨j, h1, h2, h3, h4, h5⟩ := atI_get he
  obtain ⟨w, ew, rw'⟩ := r.get h2
  have hl := r.length
  have hn := line63
  have fin : EP X pins σ Q w s := ⟨z, H, I, rw', q⟩
  by_cases h0 : 0 ≤ i
  · have hj : i.toNat = j := by
      rw [seqIndex_of h0 h5] at h1
      exact Option.some.inj h1
    exact wpAny_getItem_list pl.isList h0 (by omega) (by rw [hj]; simpa using ew) fin
  · have hj : (i + (its.toArray.size : Int)).toNat = j := by
      rw [seqIndex_neg (by omega) h4] at h1
      rw [List.size_toArray, ← hl]
      exact Option.some.inj h1
    exact wpAny_getItem_list_neg pl.isList (by omega) (by rw [List.size_toArray] <;> omega) (by omega) (by rw [hj]; simpa using ew) fin
/-- x[i] op= e, x the list in the slot k -/
def sAugS (k : Nat) (i : M D) (f : D → D → Res D) (a : M D) : Env → Fl := fun η => onRes (lstAt η k) η fun xs => onRes (i η) η fun y => match y with
  | .int z => (match atD xs z with
    | some old => onRes ((a η).bind fun v => f old v) η fun d => match setD xs z d with | some ys => .nx (η.set k (some (.lst ys))) | none => .stuck
    | none => .stuck)
  | _ => .stuck
section
variable {X : Cx} {c : Ct} {Γ : List Nat} {h : Option (Nat × Addr × Er)} {b e : Expr} {ma mb : M D} {na nb : Nat} {pos : Pos} {x : Str}
theorem s_augS {op : Operator} {r : R2} {f : D → D → Res D} {p2 pt : Pos} (k : Nat) (hS : c.S = sta X h) (ho : OpR X (inplaceOp op) r) (hf : OpD (sta X h) r f 0) (he : PE X e (tE (sta X h) c.W Γ ma na)) (hb : PE X b (tE (sta X h) c.W Γ mb nb)) (hG : Γ.getD k 0 = 1 := by rfl) (hN : X.N[k]? = some x := by rfl) (hv : Vis X.env.scope x := by first | exact Or.inl rfl | exact Or.inr (Or.inl rfl) | exact Or.inr (Or.inr rfl)) (hd : (x == ("__debug__" : Str)) = false := by decide) (hcd : (x == ("__classdict__" : Str)) = false := by decide)
    (hau : ∀ ov iv new, augStore b ov iv new = (do holding [new, ov, iv] (setItem ov iv new); release [new, ov, iv] []; pure .next) := by intros; rfl) :
    PS X (.AugAssign (.Subscript (.Name x p2) b pt) op e pos) (tS c Γ (sAugS k mb f ma) Γ) := impS (ps_augS (pe_var hN hv hd hcd) hb pget_list he (pip_of ho) set_list hau) fun D σ H w => by
  obtain ⟨H0, G0, Hs, F, η, ok, p⟩ := w
  obtain ⟨xs, e1, px⟩ := lstAt_ok (onRes_post ok p)
  have pp := onRes_post ok px
  rw [hS] at pp ok
  obtain ⟨l, vs, G, q1, q2, q3, q4⟩ := own_at ok hG e1
  obtain ⟨rfl, r4⟩ := q4.reps
  refine ⟨.ref l, q1, tE.use ok (pp.imp fun y ky u H1 Hs1 st1 ru ok1 => ?_)⟩
  cases y <;> first | exact ky.elim | skip
  rename_i z
  have okc : EOk c.S H0 G0 H1 Hs1 Γ F σ η := by rw [hS]; exact ok1
  have ky' : PostS c H0 G0 Γ (match atD xs z with | some old => onRes ((ma η).bind fun v => f old v) η (fun d => match setD xs z d with | some ys => Fl.nx (η.set k (some (.lst ys))) | none => .stuck) | none => .stuck) D := ky
  cases hz : atD xs z with
  | none => rw [hz] at ky'; exact ky'.elim
  | some old =>
    rw [hz] at ky'
    have pq := onRes_post okc ky'
    rw [hS] at pq
    unfold Rep at ru
    have r41 := r4.same st1.shr
    obtain ⟨vo, e2, e3⟩ := atD_get r41 hz
    refine ⟨l, vs, z, vo, rfl, ru, SqL.of (st1.all _ _ q3), e2, tE.use ok1 ((Post.bind pq).imp fun v pv w H2 Hs2 st2 rv ok2 => ?_)⟩
    refine hf c.W σ H2 Hs2 old v vo w _ ok2.sub (e3.same st2.shr) rv ((pv.up st2.all).imp fun d kd wz H3 Hs3 Fr st3 o3 => ?_)
    obtain ⟨e4, r3⟩ := Own.zero.mp o3
    subst e4
    have ok3 := ok2.step st3
    have kd' : PostS c H0 G0 Γ (match setD xs z d with | some ys => Fl.nx (η.set k (some (.lst ys))) | none => .stuck) D := kd
    cases hy : setD xs z d with
    | none => rw [hy] at kd'; exact kd'.elim
    | some ys =>
      rw [hy] at kd'
      obtain ⟨j, hj, rfl⟩ := setD_ok hy
      have st := (st1.trans st2).trans st3
      have r4' := r4.same st.shr
      have q3' : H3 l = some (.lst vs) := st.all _ _ q3
      refine ⟨l, vs, z, j, rfl, ru, q3', by rw [r4.length]; exact hj, ?_⟩
      have zz := ok3.list1 hG q1 q2 e1 (r4'.set j r3)
      exact kd' σ _ Hs3 F (by rw [hS]; exact zz)
end
end VL
/-! VLPick: [f, g][i](..), a def picked from a list of two. -/
namespace VL
open PySem PySem.Spec PyProof PyProof.Rows L2
section
variable {X : Cx} {W : WX} {Γ : List Nat} {e ie : Expr} {es : List Expr} {mas : M (List D)} {mi : M D} {n ni k k' ar : Nat} {pos p p1 p2 p3 p4 : Pos} {x y : Str} {f g : List D → Res D}
/-- the call of a def whose value is at hand -/
theorem call_at {h : Option (Nat × Addr × Er)} {u : Value} {pins : List (Addr × Obj)} {s : Shared} {σ : L2.St} {H : Hp} {Q : VK} (F : FnS X.prog X.w X.K X.mg X.base x k ar f n []) (hu : X.mg x = some u) (hr : Room k X.A) (tk : Takes X W) (ha : PA X (e :: es) (tA (sta X h) W Γ mas)) (hlen : es.length + 1 = ar) (hml : ∀ η ds, mas η = .ok ds → ds.length = es.length + 1)
    (he : starEach (e :: es) X.env = (false, eval e X.env) :: starEach es X.env) (hpl : (backTo pos (starEach es X.env)).any (·.1) = false) (I : Inv X pins σ H s) (w : tE (sta X h) W Γ (dCall f mas) n σ H Q) :
    wpAny (model X.prog X.w) X.A (callWith pos u [] (backTo pos (starEach (e :: es) X.env)) []) (EP X pins σ Q) X.xe s := by
  obtain ⟨fA, fd, ps, ds, dvs, hm, hk, G, hd, hrep, hb⟩ := F.ex
  obtain rfl : u = .ref fA := by rw [hm] at hu; exact (Option.some.inj hu).symm
  obtain ⟨H0, G0, Hs, F, η, ok, pp⟩ := w
  have w : tA (sta X h) W Γ mas σ H fun vs H1 => spF ⟨X.K, X.mg, none⟩ ar f n (vs ++ dvs) H1 Q (WE W σ) := by
    cases hη : mas η with
    | ok as =>
      have hl := hml η as hη
      refine tA.use ok ?_
      have pb := Post.bind pp
      rw [hη] at pb ⊢
      have hz : dvs = [] := Reps.nil_iff.mp (hrep H)
      refine fun vs H1 Hs1 st1 r1 ok1 => ⟨as, Hs1, by rw [hl]; exact hlen, ok1.sub, by rw [hz, List.append_nil]; exact r1.cool, ?_⟩
      exact post_swap (S := sta X h) pb st1.all (fun cls d H' q => q) fun d kk v H' Hs' Fr st o => kk v H' Hs' Fr (st1.trans st) (o.cool d _ v _)
    | exc er =>
      refine tA.use ok ?_
      have pb := Post.bind pp
      rw [hη] at pb ⊢
      exact pb
    | stuck =>
      have pb := Post.bind pp
      rw [hη] at pb
      exact pb.elim
  refine PySem.W.callWith_K (h₀ := X.base) I.ok.mod.kin hk (thn (ha.run pos pins s σ H _ I w) fun us s1 ⟨vs, H1, I1, r, q⟩ => ⟨I1.kIn, ?_⟩) he hpl
  exact run_S G hr hb hd (passAt tk σ) I1 r q
def dPick2 (f g : List D → Res D) (mi : M D) (ma : M (List D)) : M D := fun η => (mi η).bind fun i => match i with
  | .int j => if j = 0 then dCall f ma η else if j = 1 then dCall g ma η else .stuck
  | _ => .stuck
theorem arm_pick (a b : Expr) (args : List Expr) (kws : List Keyword) (env : PySem.Env) : eval (.Call (.Subscript a b p) args kws pos) env = (do
    callWith pos (← eval (.Subscript a b p) env) [] (backTo pos (starEach args env)) (backToKw pos (keywordEach kws env))) := rfl
theorem e_pick2 {h : Option (Nat × Addr × Er)} (F : FnS X.prog X.w X.K X.mg X.base x k ar f n []) (G : FnS X.prog X.w X.K X.mg X.base y k' ar g n []) (hr : Room k X.A) (hr' : Room k' X.A) (tk : Takes X W) (hi : PE X ie (tE (sta X h) W Γ mi ni)) (ha : PA X (e :: es) (tA (sta X h) W Γ mas)) (hml : ∀ η ds, mas η = .ok ds → ds.length = es.length + 1) (hlen : es.length + 1 = ar := by rfl)
    (hg : Gl X x := by rfl) (hdb : (x == ("__debug__" : Str)) = false := by decide) (hg2 : Gl X y := by rfl) (hdb2 : (y == ("__debug__" : Str)) = false := by decide) (hs : PlainIx ie := by intro _ _; rfl)
    (l1 : starEach [.Name x p1, .Name y p2] X.env = (false, eval (.Name x p1) X.env) :: starEach [.Name y p2] X.env := by rfl) (l2 : starEach [.Name y p2] X.env = (false, eval (.Name y p2) X.env) :: starEach [] X.env := by rfl)
    (he : starEach (e :: es) X.env = (false, eval e X.env) :: starEach es X.env := by rfl) (hpl : (backTo pos (starEach es X.env)).any (·.1) = false := by rfl) :
    PE X (.Call (.Subscript (.List [.Name x p1, .Name y p2] p3) ie p) (e :: es) [] pos) (tE (sta X h) W Γ (dPick2 f g mi mas) n) := by
  refine ⟨fun pins s σ H Q I w => ?_⟩
  obtain ⟨fA, _, _, _, _, hm, _⟩ := F.ex
  obtain ⟨gA, _, _, _, _, hm2, _⟩ := G.ex
  rw [arm_pick]
  refine wpAny_bind ?_
  have hix := pe_ix (pos := p) ix_list (pe_lst (pos := p3) (pa_cons (pe_glob (X := X) (v := .ref fA) (pos := p1) hg hm rfl hdb) (pa_cons (pe_glob (X := X) (v := .ref gA) (pos := p2) hg2 hm2 rfl hdb2) pa_nil l2) l1)) hi hs
  refine thn (hix.run pins s σ H (fun v H1 => (v = .ref fA ∧ tE (sta X h) W Γ (dCall f mas) n σ H1 Q) ∨ (v = .ref gA ∧ tE (sta X h) W Γ (dCall g mas) n σ H1 Q)) I ?_) fun u s1 ⟨v, H1, I1, rv, q⟩ => ?_
  · obtain ⟨H0, G0, Hs, F', η, ok, pp⟩ := w
    refine ⟨(by decide : 2 ≤ sizeLine), fun q hq => ?_⟩
    have st0 : Step H Hs (upd H q (.lst [.ref fA, .ref gA])) (upd Hs q (.lst [.ref fA, .ref gA])) [] := Step.newS ok.sub hq
    have ok0 := ok.step st0
    refine tE.use ok0 (((Post.bind pp).up st0.all).imp fun i pi v H1 Hs1 st1 ri ok1 => ?_)
    split at pi
    · rename_i j
      unfold Rep at ri
      subst ri
      have hsq : SqL X.K H1 q [.ref fA, .ref gA] := SqL.of (st1.all _ _ (by rw [upd_same]))
      have fin : ∀ (f' : List D → Res D), Post (sta X h) W σ H (dCall f' mas η) (fun d => ∀ (v : V) (H' Hs' : Hp) (Fr : List Addr), Step H Hs H' Hs' Fr → Own (sta X h) H' Hs' d n v Fr → Q v H') → tE (sta X h) W Γ (dCall f' mas) n σ H1 Q := fun f' p' =>
        ⟨H0, G0, Hs1, F', η, ok1, (p'.up (st0.trans st1).all).imp fun d k v' H' Hs' Fr st o => k v' H' Hs' Fr ((st0.trans st1).trans st) o⟩
      split at pi
      · rename_i e0
        subst e0
        exact ⟨q, _, 0, .ref fA, rfl, rfl, hsq, rfl, .inl ⟨rfl, fin f pi⟩⟩
      · split at pi
        · rename_i e1
          subst e1
          exact ⟨q, _, 1, .ref gA, rfl, rfl, hsq, rfl, .inr ⟨rfl, fin g pi⟩⟩
        · exact pi.elim
    · exact pi.elim
  · rcases q with ⟨rfl, q⟩ | ⟨rfl, q⟩
    · obtain rfl : u = .ref fA := by cases rv; rfl
      exact call_at F hm hr tk ha hlen hml he hpl I1 q
    · obtain rfl : u = .ref gA := by cases rv; rfl
      exact call_at G hm2 hr' tk ha hlen hml he hpl I1 q
end
end VL
/-! VLHead: a law's end. -/
namespace VL
open PySem PySem.Spec L2
/-- no list among the module's own things -/
def noLst (K : PySem.W.Frag) : Bool := K.all fun p => decide (p.2.cls ≠ .type "list")
theorem noLst_of {K : PySem.W.Frag} (h : noLst K = true) {a : Addr} {o : Obj} (e : K.lookup a = some o) : o.cls ≠ .type "list" := by
  have key : ∀ l : List (Addr × Obj), (l.all fun p => decide (p.2.cls ≠ .type "list")) = true → l.lookup a = some o → o.cls ≠ .type "list" := by
    intro l
    induction l with
    | nil => intro _ q; cases q
    | cons p r ih =>
      intro hl q
      rw [List.all_cons, Bool.and_eq_true] at hl
      obtain ⟨b, u⟩ := p
      have q2 : (match a == b with | true => some u | false => r.lookup a) = some o := q
      cases hb : (a == b) with
      | true =>
        rw [hb] at q2
        have z : u = o := Option.some.inj q2
        rw [← z]
        exact of_decide_eq_true hl.1
      | false =>
        rw [hb] at q2
        exact ih hl.2 q2
  exact key K h e
def obsV (fa : List He.Fa) (fn : List He.DefD) (K : PySem.W.Frag) : (Bool × Bool) × He.AlD := ((erB K && clsB K, noLst K), He.obsD fa fn K)
def obsVG (n : Nat) (fa : List He.Fa) (fn : List He.DefD) (g : Addr → Option Obj) : (Bool × Bool) × He.AlD := obsV fa fn (He.frG g (He.asD g n))
structure SaysV (fa : List He.Fa) (fn : List He.DefD) (K : PySem.W.Frag) : Prop where
  er : erB K = true
  cl : clsB K = true
  nl : noLst K = true
  d : He.SaysD fa fn K
def hookV (n : Nat) (fa : List He.Fa) (fn : List He.DefD) : PySem.W.Hook where
  α := (Bool × Bool) × He.AlD
  obs := fun s => obsVG n fa fn s.heap.get?
  val := fun _ => ((true, true), He.valD fn)
  says := fun _ h => ∃ K : PySem.W.Frag, K.In h ∧ SaysV fa fn K
  of := fun _ _ e => ⟨_, He.frG_in, ⟨(Bool.and_eq_true_iff.mp (congrArg (fun z : (Bool × Bool) × He.AlD => z.1.1) e)).1, (Bool.and_eq_true_iff.mp (congrArg (fun z : (Bool × Bool) × He.AlD => z.1.1) e)).2, congrArg (fun z : (Bool × Bool) × He.AlD => z.1.2) e, congrArg (fun z : (Bool × Bool) × He.AlD => z.2) e⟩⟩
  keeps := fun _ _ _ ⟨K, hK, c⟩ k => ⟨K, PySem.W.Frag.In.keeps hK k, c⟩
theorem obsVG_eq {n : Nat} {fa : List He.Fa} {fn : List He.DefD} {g : Addr → Option Obj} {s : Shared} (h : ∀ a, g a = s.heap.get? a) : obsVG n fa fn g = (hookV n fa fn).obs s := by
  have e : g = s.heap.get? := funext h
  rw [e] <;> rfl
theorem walk_ofV {l : PySem.W.OpenLaw} {n k : Nat} {q : Program} {loose : List Str} {XP : (Str → Option Value) → Heap → Prop} {YP : World → Heap → Prop} {d : DefRec} {x : Str}
    (hn : l.most = some n) (hn2 : n ≤ sizeLine) (hdf : d.params.defaults = []) (hr : Room k PySem.callerA)
    (F : ∀ (w : World) (mg : Str → Option Value) (fa : Addr) (h : Heap), YP w h → h.Ns mainGlobals mg → mg d.name = some (.ref fa) →
      ∃ (K : PySem.W.Frag) (fd : FuncData) (sp : Sp), K.In h ∧ noLst K = true ∧ (∀ (s : Shared) (u : Value), BindsTo s fd ⟨[u], []⟩ [(x, u)]) ∧
        (∀ (H : Hp) (a : Addr) (ns : List Int), ns.length ≤ n → (∀ z ∈ ns, Builtin.Int.intBits z ≤ 1048576) → Rd H a (.lst (ns.map V.int)) → sp [.ref a] H (fun v _ => v = .bl true) fun _ _ _ => False) ∧
        ∀ base : Heap, K.In base → base.Ns mainGlobals mg → FnOk l.prog w K mg base (L2.CX l.prog w) k fa fd [x] sp) :
    PySem.W.WalkO q loose XP YP l.row.toRowW d [] (fun f vs => PySem.call f vs) := by
  refine Att.attach_callB hn hdf fun w s₀ s₁ mg mb fa o pm cd doc a vs ns G Y ho hd hcd hmg hobj hints hlen hbits hg => ?_
  obtain ⟨K, fd, sp, KX, hK, hb, hsp, hF⟩ := F w mg fa _ Y G.T.g hmg
  refine law_call KX G.T.g G.T.b G.T.builtins G.T.nolimit hg hobj hints (Nat.le_trans hlen hn2) hr hF hb (fun H hO hS => hsp H a ns hlen hbits ?_) fun H e s' z => ?_
  · rcases hS with h | ⟨o2, its, m, hk, hc, _⟩
    · exact h
    · exact absurd hc (noLst_of hK hk)
  · obtain ⟨_, _, _, _, _, _, _, _, _, _, _, _, z⟩ := z
    exact z.elim
/-- the law's promise, from what its def does -/
theorem law_sp {K : PySem.W.Frag} {mg : Str → Option Value} {f : List D → Res D} {H : Hp} {a : Addr} {ns : List Int} (h : Rd H a (.lst (ns.map V.int))) (e : f [.lst (ns.map D.int)] = .ok (.bl true)) :
    spF ⟨K, mg, none⟩ 1 f 0 [.ref a] H (fun v _ => v = .bl true) fun _ _ _ => False := by
  refine ⟨[.lst (ns.map D.int)], H, rfl, Same.refl _, Reps.one ?_, ?_⟩
  · unfold Rep
    exact ⟨a, _, rfl, h, Reps.of_ints ns⟩
  · rw [e]
    intro v H' Hs' Fr st o
    have z := (Own.zero.mp o).2
    unfold Rep at z
    exact z
end VL
/-! VLMath: reckoning with what the pieces do. -/
namespace VL
open PySem
theorem nrf {α : Type} {a b : α} (h : a = b) : a = b := h
/-! ### evaluation, for simp -/
section
variable {η : Env} {a b c : M D} {mas mbs : M (List D)} {qa qb : M Bool} {f g : D → D → Res D} {m n : Env → Fl} {i k : Nat} {d : D} {o : Option D}
@[simp] theorem ev_var0 : dVar 0 (some d :: η) = .ok d := nrf rfl
@[simp] theorem ev_varS : dVar (i + 1) (o :: η) = dVar i η := nrf rfl
@[simp] theorem ev_lit : dLit d η = .ok d := nrf rfl
@[simp] theorem ev_op1 {f : D → Res D} : dOp1 f a η = (a η).bind f := nrf rfl
@[simp] theorem ev_op2 : dOp2 f a b η = (a η).bind fun x => (b η).bind fun y => f x y := nrf rfl
@[simp] theorem ev_chain : dChain f g a b c η = (a η).bind fun x => (b η).bind fun y => (f x y).bind fun r => (toB r).bind fun k => if k then (c η).bind fun z => g y z else .ok (.bl false) := nrf rfl
@[simp] theorem ev_and : dAnd a b η = (a η).bind fun x => (toB x).bind fun k => if k then b η else .ok (.bl false) := nrf rfl
@[simp] theorem ev_or : dOr a b η = (a η).bind fun x => (toB x).bind fun k => if k then .ok (.bl true) else b η := nrf rfl
@[simp] theorem ev_not : dNot a η = (a η).bind fun x => (toB x).bind fun k => .ok (.bl (!k)) := nrf rfl
@[simp] theorem ev_qB : qB a η = (a η).bind toB := nrf rfl
@[simp] theorem ev_qTru : qTru a η = (a η).bind D.truth := nrf rfl
@[simp] theorem ev_qAnd : qAnd qa qb η = (qa η).bind fun k => if k then qb η else .ok false := nrf rfl
@[simp] theorem ev_qOr : qOr qa qb η = (qa η).bind fun k => if k then .ok true else qb η := nrf rfl
@[simp] theorem ev_qNot : qNot qa η = (qa η).bind fun k => .ok (!k) := nrf rfl
@[simp] theorem ev_if : dIf qa a b η = (qa η).bind fun k => if k then a η else b η := nrf rfl
@[simp] theorem ev_nil : aNil η = .ok [] := nrf rfl
@[simp] theorem ev_cons : aCons a mas η = (a η).bind fun x => (mas η).bind fun xs => .ok (x :: xs) := nrf rfl
@[simp] theorem ev_tup : dTup mas η = (mas η).bind fun xs => if xs.length ≤ line then .ok (.tup xs) else .stuck := nrf rfl
@[simp] theorem ev_lst : dLst mas η = (mas η).bind fun xs => if xs.length ≤ line then .ok (.lst xs) else .stuck := nrf rfl
@[simp] theorem ev_call {f : List D → Res D} : dCall f mas η = (mas η).bind f := nrf rfl
@[simp] theorem ev_callK {f : List D → List D → Res D} : dCallK f mas mbs η = (mas η).bind fun xs => (mbs η).bind fun ys => f xs ys := nrf rfl
@[simp] theorem ev_oSome : oSome a η = (a η).bind toI := nrf rfl
@[simp] theorem ev_iSeq : iSeq a η = (a η).bind items := nrf rfl
@[simp] theorem ev_iRev : iRev a η = (a η).bind fun x => (lstOf x).bind fun xs => .ok xs.reverse := nrf rfl
@[simp] theorem ev_iEnum : iEnum a η = (a η).bind fun x => (lstOf x).bind fun xs => .ok (enumD 0 xs) := nrf rfl
@[simp] theorem ev_iZip : iZip a b η = (a η).bind fun x => (b η).bind fun y => (lstOf x).bind fun xs => (lstOf y).bind fun ys => .ok (zipD xs ys) := nrf rfl
@[simp] theorem ev_bind {α β : Type} (x : α) (f : α → Res β) : (Res.ok x).bind f = f x := nrf rfl
@[simp] theorem ev_bindE {α β : Type} (e : Er) (f : α → Res β) : (Res.exc e : Res α).bind f = .exc e := nrf rfl
@[simp] theorem ev_bindS {α β : Type} (f : α → Res β) : (Res.stuck : Res α).bind f = .stuck := nrf rfl
@[simp] theorem ev_toB {x : Bool} : toB (.bl x) = .ok x := nrf rfl
@[simp] theorem ev_toI {x : Int} : toI (.int x) = .ok (some x) := nrf rfl
@[simp] theorem ev_items {xs : List D} : items (.lst xs) = .ok xs := nrf rfl
@[simp] theorem ev_itemsT {xs : List D} : items (.tup xs) = .ok xs := nrf rfl
@[simp] theorem ev_lstOf {xs : List D} : lstOf (.lst xs) = .ok xs := nrf rfl
@[simp] theorem ev_truB {x : Bool} : D.truth (.bl x) = .ok x := nrf rfl
@[simp] theorem ev_truI {x : Int} : D.truth (.int x) = .ok (x != 0) := nrf rfl
@[simp] theorem ev_truN : D.truth .non = .ok false := nrf rfl
@[simp] theorem ev_truL {x : List D} : D.truth (.lst x) = .ok (!x.isEmpty) := nrf rfl
/-! operators at ints -/
@[simp] theorem ev_add {x y : Int} : opAdd (.int x) (.int y) = .ok (.int (x + y)) := nrf rfl
@[simp] theorem ev_addI {x y : Int} : opAddI (.int x) (.int y) = .ok (.int (x + y)) := nrf rfl
@[simp] theorem ev_sub {x y : Int} : opSub (.int x) (.int y) = .ok (.int (x - y)) := nrf rfl
theorem ev_mul {x y : Int} (h : mulOk x y = true) : opMul (.int x) (.int y) = .ok (.int (x * y)) := if_pos h
theorem ev_mulL {xs : List D} {k : Int} (h1 : k < 16777217) (h2 : -16777217 < k) (h3 : xs.length * k.toNat ≤ line) : opMul (.lst xs) (.int k) = .ok (.lst (List.replicate k.toNat xs).flatten) := if_pos ⟨h1, h2, h3⟩
theorem ev_div {x y : Int} (h : divOk x y = true) : opDiv (.int x) (.int y) = .ok (.int (x / y)) := if_pos h
theorem ev_mod {x y : Int} (h : 0 < y) : opMod (.int x) (.int y) = .ok (.int (x % y)) := if_pos h
theorem ev_pow {x y : Int} (h : powOk x y = true) : opPow (.int x) (.int y) = .ok (.int (x ^ y.toNat)) := if_pos h
theorem ev_shl {x y : Int} (h : shlOk x y = true) : opShl (.int x) (.int y) = .ok (.int (x * 2 ^ y.toNat)) := if_pos h
theorem ev_shr {x y : Int} (h : 0 ≤ y) : opShr (.int x) (.int y) = .ok (.int (x / 2 ^ y.toNat)) := if_pos h
theorem ev_bitAnd {x y : Int} : opAnd (.int x) (.int y) = .ok (.int (Builtin.bitAnd x y)) := rfl
theorem ev_bitOr {x y : Int} : opOr (.int x) (.int y) = .ok (.int (Builtin.bitOr x y)) := rfl
theorem ev_bitXor {x y : Int} : opXor (.int x) (.int y) = .ok (.int (Builtin.bitXor x y)) := rfl
@[simp] theorem ev_neg {x : Int} : opNeg (.int x) = .ok (.int (-x)) := nrf rfl
@[simp] theorem ev_cmp {p : Int → Int → Bool} {x y : Int} : cmpI p (.int x) (.int y) = .ok (.bl (p x y)) := nrf rfl
@[simp] theorem ev_eqI {x y : Int} : opEq (.int x) (.int y) = .ok (.bl (decide (x = y))) := nrf rfl
@[simp] theorem ev_neI {x y : Int} : opNe (.int x) (.int y) = .ok (.bl (!decide (x = y))) := nrf rfl
@[simp] theorem ev_eqB {x y : Bool} : opEq (.bl x) (.bl y) = .ok (.bl (decide (x = y))) := by cases x <;> cases y <;> rfl
@[simp] theorem ev_neB {x y : Bool} : opNe (.bl x) (.bl y) = .ok (.bl (!decide (x = y))) := by cases x <;> cases y <;> rfl
@[simp] theorem ev_abs {x : Int} : fAbs [.int x] = .ok (.int (if x < 0 then -x else x)) := nrf rfl
@[simp] theorem ev_int {x : Int} : fInt [.int x] = .ok (.int x) := nrf rfl
@[simp] theorem ev_intB {x : Bool} : fInt [.bl x] = .ok (.int (if x then 1 else 0)) := nrf rfl
@[simp] theorem ev_len {xs : List D} : fLen [.lst xs] = .ok (.int xs.length) := nrf rfl
@[simp] theorem ev_lenT {xs : List D} : fLen [.tup xs] = .ok (.int xs.length) := nrf rfl
@[simp] theorem ev_max2 {x y : Int} : fMax2 [.int x, .int y] = .ok (.int (if y > x then y else x)) := nrf rfl
@[simp] theorem ev_min2 {x y : Int} : fMin2 [.int x, .int y] = .ok (.int (if y < x then y else x)) := nrf rfl
@[simp] theorem ev_list {xs : List D} : fList [.lst xs] = .ok (.lst xs) := nrf rfl
@[simp] theorem ev_listT {xs : List D} : fList [.tup xs] = .ok (.lst xs) := nrf rfl
@[simp] theorem ev_tuple {xs : List D} : fTuple [.lst xs] = .ok (.tup xs) := nrf rfl
@[simp] theorem ev_tupleT {xs : List D} : fTuple [.tup xs] = .ok (.tup xs) := nrf rfl
@[simp] theorem ty_int {x : Int} : opIsTy "int" (.int x) = .ok (.bl true) := nrf rfl
@[simp] theorem ty_intb {x : Int} : opIsTy "bool" (.int x) = .ok (.bl false) := nrf rfl
@[simp] theorem ty_boolb {x : Bool} : opIsTy "bool" (.bl x) = .ok (.bl true) := nrf rfl
@[simp] theorem ty_booli {x : Bool} : opIsTy "int" (.bl x) = .ok (.bl true) := nrf rfl
@[simp] theorem ty_lst {x : List D} : opIsTy "list" (.lst x) = .ok (.bl true) := nrf rfl
@[simp] theorem ty_tup {x : List D} : opIsTy "tuple" (.tup x) = .ok (.bl true) := nrf rfl
@[simp] theorem ty_lsti {x : List D} : opIsTy "int" (.lst x) = .ok (.bl false) := nrf rfl
@[simp] theorem ty_tupl {x : List D} : opIsTy "list" (.tup x) = .ok (.bl false) := nrf rfl
@[simp] theorem ty_lstt {x : List D} : opIsTy "tuple" (.lst x) = .ok (.bl false) := nrf rfl
@[simp] theorem ev_isNone : opIsNone d = .ok (.bl d.isNon) := nrf rfl
@[simp] theorem ev_notNone : opNotNone d = .ok (.bl (!d.isNon)) := nrf rfl
/-! items -/
theorem ix_nat {n : Nat} {j : Nat} (h : j < n) : ixOf n (j : Int) = some j := by
  unfold ixOf
  rw [if_pos (by omega), if_pos (by omega), Int.toNat_natCast]
theorem atD_nat {xs : List D} {j : Nat} {d : D} (h : xs[j]? = some d) : atD xs (j : Int) = some d := by
  unfold atD
  rw [ix_nat (List.getElem?_eq_some_iff.mp h).1]
  exact h
theorem ev_ix {xs : List D} {i : Int} {d : D} (h : atD xs i = some d) : opIx (.lst xs) (.int i) = .ok d := by
  show (match atD xs i with | some d => Res.ok d | none => .stuck) = _
  rw [h]
theorem ev_ixT {xs : List D} {i : Int} {d : D} (h : atD xs i = some d) : opIx (.tup xs) (.int i) = .ok d := by
  show (match atD xs i with | some d => Res.ok d | none => .stuck) = _
  rw [h]
theorem ev_ixN {xs : List D} {j : Nat} {d : D} (h : xs[j]? = some d) : opIx (.lst xs) (.int (j : Int)) = .ok d := ev_ix (atD_nat h)
@[simp] theorem ev_ix0 {xs : List D} : opIx (.lst (d :: xs)) (.int 0) = .ok d := ev_ix (atD_nat (j := 0) rfl)
@[simp] theorem ev_ixT0 {xs : List D} : opIx (.tup (d :: xs)) (.int 0) = .ok d := ev_ixT (atD_nat (j := 0) rfl)
@[simp] theorem ev_ixT1 {e : D} {xs : List D} : opIx (.tup (d :: e :: xs)) (.int 1) = .ok e := ev_ixT (atD_nat (j := 1) rfl)
@[simp] theorem ev_ixT2 {e e2 : D} {xs : List D} : opIx (.tup (d :: e :: e2 :: xs)) (.int 2) = .ok e2 := ev_ixT (atD_nat (j := 2) rfl)
@[simp] theorem ev_ix1 {e : D} {xs : List D} : opIx (.lst (d :: e :: xs)) (.int 1) = .ok e := ev_ix (atD_nat (j := 1) rfl)
/-! statements -/
@[simp] theorem ev_on {α : Type} {x : α} {k : α → Fl} : onRes (.ok x) η k = k x := nrf rfl
@[simp] theorem ev_onE {α : Type} {e : Er} {k : α → Fl} : onRes (.exc e) η k = .ex e η := nrf rfl
@[simp] theorem ev_next : sNext η = .nx η := nrf rfl
@[simp] theorem ev_break : sBreak η = .bk η := nrf rfl
@[simp] theorem ev_cont : sCont η = .ct η := nrf rfl
@[simp] theorem ev_seq : sSeq m n η = match m η with
  | .nx η' => n η'
  | r => r := nrf rfl
@[simp] theorem ev_expr : sExpr a η = onRes (a η) η fun _ => .nx η := nrf rfl
@[simp] theorem ev_asg {t : Bd} : sAsg a t η = onRes (a η) η fun d => match t d η with | some η' => .nx η' | none => .stuck := nrf rfl
@[simp] theorem ev_aug : sAug i f a η = onRes (dOp2 f (dVar i) a η) η fun d => if i < η.length then .nx (η.set i (some d)) else .stuck := nrf rfl
@[simp] theorem ev_set {x : M D} : sSet k x a η = onRes (a η) η fun d => onRes (lstAt η k) η fun xs => onRes (x η) η fun x => match x with
  | .int z => (match setD xs z d with | some ys => .nx (η.set k (some (.lst ys))) | none => .stuck)
  | _ => .stuck := nrf rfl
@[simp] theorem ev_app : sApp k a η = onRes (lstAt η k) η fun xs => onRes (a η) η fun d => if xs.length < line then .nx (η.set k (some (.lst (xs ++ [d])))) else .stuck := nrf rfl
@[simp] theorem ev_ret : sRet a η = onRes (a η) η fun d => .rt d := nrf rfl
@[simp] theorem ev_retN : sRetN η = .rt .non := nrf rfl
@[simp] theorem ev_sif : sIf qa m n η = onRes (qa η) η fun k => if k then m η else n η := nrf rfl
@[simp] theorem ev_raise {e : Er} : sRaise e η = .ex e η := nrf rfl
@[simp] theorem ev_for {it : M (List D)} {t : Bd} : sFor it t m η = onRes (it η) η fun xs => forGo t m xs η := nrf rfl
@[simp] theorem ev_forN {t : Bd} : forGo t m [] η = .nx η := nrf rfl
@[simp] theorem ev_forC {t : Bd} {x : D} {xs : List D} : forGo t m (x :: xs) η = (match t x η with
    | some η1 => (match m η1 with
      | .nx η' => forGo t m xs η'
      | .ct η' => forGo t m xs η'
      | .bk η' => .nx η'
      | r => r)
    | none => .stuck) := nrf rfl
@[simp] theorem ev_bname0 {o : Option D} : bName 0 d (o :: η) = some (some d :: η) := nrf rfl
@[simp] theorem ev_bnameS {o : Option D} : bName (i + 1) d (o :: η) = (bName i d η).map (o :: ·) := by
  unfold bName
  by_cases h : i < η.length <;> simp [h]
@[simp] theorem ev_btup {r : List D → Env → Option Env} {ds : List D} : bTup r (.tup ds) η = r ds η := nrf rfl
@[simp] theorem ev_btupL {r : List D → Env → Option Env} {ds : List D} : bTup r (.lst ds) η = r ds η := nrf rfl
@[simp] theorem ev_bnil : bNil [] η = some η := nrf rfl
@[simp] theorem ev_bcons {t : Bd} {r : List D → Env → Option Env} {ds : List D} : bCons t r (d :: ds) η = (t d η).bind (r ds) := nrf rfl
@[simp] theorem ev_lstAt0 {xs : List D} : lstAt (some (.lst xs) :: η) 0 = .ok xs := nrf rfl
@[simp] theorem ev_lstAtS : lstAt (o :: η) (i + 1) = lstAt η i := nrf rfl
@[simp] theorem ev_lenAt : lenAt k η = (lstAt η k).bind fun xs => .ok (.int xs.length) := nrf rfl
@[simp] theorem ev_isEr {e c : Er} (h : (e.own && c.own) = true) : dIsEr e c η = .ok (.bl (e.sub c)) := if_pos h
theorem mk_fn {n m : Nat} {body : Env → Fl} {ds : List D} (h : ds.length = n) : mkFn n m body ds = match body (ds.map some ++ List.replicate (m - n) none) with
  | .rt d => .ok d
  | .nx _ => .ok .non
  | .ex e _ => .exc e
  | _ => .stuck := if_pos h
theorem sPar_ap {i j : Nat} : sPar i j a b η = onRes ((a η).bind fun x => (b η).bind fun y => .ok (x, y)) η fun r => if i < η.length ∧ j < η.length then .nx ((η.set i (some r.1)).set j (some r.2)) else .stuck := rfl
end
@[simp] theorem le_line {n : Nat} (h : n ≤ 100000) : n ≤ line := by unfold line; omega
@[simp] theorem lt_line {n : Nat} (h : n ≤ 100000) : n < line := by unfold line; omega
theorem lim_in {n : Nat} (hn : n ≤ 1000000000) : -lim62 ≤ (n : Int) ∧ (n : Int) < lim62 := by
  have h : lim62 = 4611686018427387904 := rfl
  rw [h]; omega
theorem iRange_ok {a : M D} {η : Env} {n : Nat} (h : a η = .ok (.int n)) (hn : n ≤ 1000000000) : iRange1 a η = .ok (rangeD 0 n) := by
  unfold iRange1
  rw [h, ev_bind]
  show (if -lim62 ≤ (n : Int) ∧ (n : Int) < lim62 then Res.ok (rangeD 0 (n : Int).toNat) else .stuck) = _
  rw [if_pos (lim_in hn), Int.toNat_natCast]
theorem range_len {lo : Int} {n : Nat} : (rangeD lo n).length = n := by simp [rangeD]
theorem ev_mulN {xs : List D} {k : Nat} (h1 : k ≤ 100000) (h3 : xs.length * k ≤ 100000) : opMul (.lst xs) (.int (k : Int)) = .ok (.lst (List.replicate k xs).flatten) := by
  rw [ev_mulL (by omega) (by omega) (le_line (by rw [Int.toNat_natCast]; exact h3)), Int.toNat_natCast]
theorem ev_addL {xs ys : List D} (h : xs.length + ys.length ≤ 100000) : opAdd (.lst xs) (.lst ys) = .ok (.lst (xs ++ ys)) := if_pos (le_line h)
/-! slices -/
@[simp] theorem ev_oNone {η : Env} : (oNone : M (Option Int)) η = .ok none := nrf rfl
@[simp] theorem ev_slL {η : Env} {a : M D} {lo hi : M (Option Int)} : dSlL a lo hi η = (a η).bind fun x => (lo η).bind fun l => (hi η).bind fun h => opSlL x l h := nrf rfl
@[simp] theorem ev_sl {η : Env} {a : M D} {lo hi : M (Option Int)} : dSl a lo hi η = (a η).bind fun x => (lo η).bind fun l => (hi η).bind fun h => opSl x l h := nrf rfl
@[simp] theorem op_slL {xs : List D} {l h : Option Int} : opSlL (.lst xs) l h = .ok (.lst (cutD xs l h)) := nrf rfl
theorem cut_map {f : Int → D} {xs : List Int} {lo hi : Option Int} : ∃ ys : List Int, cutD (xs.map f) lo hi = ys.map f ∧ (∀ y ∈ ys, y ∈ xs) := by
  refine ⟨(xs.drop (slIx xs.length 0 lo)).take (slIx xs.length xs.length hi - slIx xs.length 0 lo), ?_, fun y hy => List.mem_of_mem_drop (List.mem_of_mem_take hy)⟩
  unfold cutD
  rw [List.length_map, ← List.map_drop, ← List.map_take]
/-! ### loops -/
theorem forGo_nx {t : Bd} {m : Env → Fl} {x : D} {xs : List D} {η η1 η' : Env} (h1 : t x η = some η1) (h2 : m η1 = .nx η') : forGo t m (x :: xs) η = forGo t m xs η' := by
  rw [ev_forC, h1]
  simp only [h2]
theorem forGo_ct {t : Bd} {m : Env → Fl} {x : D} {xs : List D} {η η1 η' : Env} (h1 : t x η = some η1) (h2 : m η1 = .ct η') : forGo t m (x :: xs) η = forGo t m xs η' := by
  rw [ev_forC, h1]
  simp only [h2]
theorem forGo_bk {t : Bd} {m : Env → Fl} {x : D} {xs : List D} {η η1 η' : Env} (h1 : t x η = some η1) (h2 : m η1 = .bk η') : forGo t m (x :: xs) η = .nx η' := by
  rw [ev_forC, h1]
  simp only [h2]
theorem forGo_rt {t : Bd} {m : Env → Fl} {x : D} {xs : List D} {η η1 : Env} {d : D} (h1 : t x η = some η1) (h2 : m η1 = .rt d) : forGo t m (x :: xs) η = .rt d := by
  rw [ev_forC, h1]
  simp only [h2]
theorem forGo_ex {t : Bd} {m : Env → Fl} {x : D} {xs : List D} {η η1 η' : Env} {er : Er} (h1 : t x η = some η1) (h2 : m η1 = .ex er η') : forGo t m (x :: xs) η = .ex er η' := by
  rw [ev_forC, h1]
  simp only [h2]
theorem forGo_inv {t : Bd} {m : Env → Fl} (P : List D → Env → Prop) (step : ∀ x xs η, P (x :: xs) η → ∃ η1 η', t x η = some η1 ∧ (m η1 = .nx η' ∨ m η1 = .ct η') ∧ P xs η') : ∀ xs η, P xs η → ∃ η', forGo t m xs η = .nx η' ∧ P [] η'
  | [], η, h => ⟨η, rfl, h⟩
  | x :: xs, η, h => by
    obtain ⟨η1, η', e1, e2, h2⟩ := step x xs η h
    obtain ⟨η2, e3, h3⟩ := forGo_inv P step xs η' h2
    refine ⟨η2, ?_, h3⟩
    rw [ev_forC, e1]
    rcases e2 with e2 | e2 <;> (simp only [e2]; exact e3)
theorem forGo_keep {t : Bd} {m : Env → Fl} (I : Env → Prop) : ∀ (xs : List D), (∀ x ∈ xs, ∀ η, I η → ∃ η1 η', t x η = some η1 ∧ (m η1 = .nx η' ∨ m η1 = .ct η') ∧ I η') → ∀ η, I η → ∃ η', forGo t m xs η = .nx η' ∧ I η'
  | [], _, η, h => ⟨η, rfl, h⟩
  | x :: xs, hs, η, h => by
    obtain ⟨η1, η', e1, e2, h2⟩ := hs x (List.mem_cons_self ..) η h
    obtain ⟨η2, e3, h3⟩ := forGo_keep I xs (fun y hy => hs y (List.mem_cons_of_mem _ hy)) η' h2
    refine ⟨η2, ?_, h3⟩
    rw [ev_forC, e1]
    rcases e2 with e2 | e2 <;> (simp only [e2]; exact e3)
theorem compGo_map {t : Bd} {e : M D} {η : Env} {g : D → D} : ∀ (xs acc : List D), (∀ x ∈ xs, ∃ η1, t x η = some η1 ∧ e η1 = .ok (g x)) → acc.length + xs.length ≤ line → compGo t qYes e η xs acc = .ok (acc ++ xs.map g)
  | [], acc, _, _ => by unfold compGo; simp
  | x :: xs, acc, h, hl => by
    obtain ⟨η1, e1, e2⟩ := h x (List.mem_cons_self ..)
    unfold compGo
    rw [e1]
    simp only [e2]
    rw [if_pos (by simp at hl; omega), compGo_map xs _ (fun y hy => h y (List.mem_cons_of_mem _ hy)) (by simp at hl ⊢; omega)]
    simp
theorem dComp_map {it : M (List D)} {t : Bd} {e : M D} {own : List Nat} {η : Env} {xs : List D} (g : D → D) (h1 : it η = .ok xs) (h : ∀ x ∈ xs, ∃ η1, t x (wipeE η own) = some η1 ∧ e η1 = .ok (g x)) (hl : xs.length ≤ line) : dComp it t qYes e own η = .ok (.lst (xs.map g)) := by
  unfold dComp
  rw [h1, ev_bind, compGo_map xs [] h (by simpa using hl)]
  rfl
/-! ### how great an int is -/
def Sz (n : Nat) (i : Int) : Prop := i.natAbs < 2 ^ n
theorem Sz.mono {n m : Nat} {i : Int} (h : Sz n i) (l : n ≤ m) : Sz m i := Nat.lt_of_lt_of_le h (Nat.pow_le_pow_right (by decide) l)
theorem Sz.neg {n : Nat} {i : Int} (h : Sz n i) : Sz n (-i) := by unfold Sz at *; rwa [Int.natAbs_neg]
theorem Sz.mul {n m : Nat} {i j : Int} (h : Sz n i) (k : Sz m j) : Sz (n + m) (i * j) := by
  unfold Sz at *
  rw [Int.natAbs_mul, Nat.pow_add]
  exact Nat.mul_lt_mul'' h k
theorem Sz.add {n : Nat} {i j : Int} (h : Sz n i) (k : Sz n j) : Sz (n + 1) (i + j) := by
  unfold Sz at *
  have := Int.natAbs_add_le i j
  rw [Nat.pow_succ]
  omega
theorem Sz.sub {n : Nat} {i j : Int} (h : Sz n i) (k : Sz n j) : Sz (n + 1) (i - j) := by
  rw [Int.sub_eq_add_neg]
  exact h.add k.neg
theorem Sz.le {n : Nat} {i j : Int} (h : Sz n j) (k : i.natAbs ≤ j.natAbs) : Sz n i := Nat.lt_of_le_of_lt k h
theorem Sz.of_range {n : Nat} {i j : Int} (h : Sz n j) (h1 : 0 ≤ i) (h2 : i ≤ j) : Sz n i := h.le (by omega)
theorem Sz.mod {m : Nat} {i j : Int} (h : Sz m j) (hj : 0 < j) : Sz m (i % j) := h.of_range (Int.emod_nonneg _ (by omega)) (Int.le_of_lt (Int.emod_lt_of_pos _ hj))
theorem Sz.div {n : Nat} {i j : Int} (h : Sz n i) (hj : 0 < j) : Sz n (i / j) := by
  refine h.le ?_
  have e := Int.ediv_mul_add_emod i j  
  have p := Int.emod_nonneg i (show j ≠ 0 by omega)
  have q := Int.emod_lt_of_pos i hj
  by_cases hi : 0 ≤ i
  · have a := Int.ediv_nonneg hi (Int.le_of_lt hj)
    have b := Int.ediv_le_self j hi
    omega
  · have a : i / j < 0 := Int.ediv_neg_of_neg_of_pos (by omega) hj
    have b : i ≤ i / j := by
      have c : (i / j) * j ≤ (i / j) * 1 := Int.mul_le_mul_of_nonpos_left (by omega) (by omega)
      have : i / j * j + i % j = i := e
      rw [Int.mul_one] at c
      by_cases hz : i ≤ i / j
      · exact hz
      · exfalso
        have d : (i / j + 1) * j ≤ 0 := Int.mul_nonpos_of_nonpos_of_nonneg (by omega) (by omega)
        rw [Int.add_mul, Int.one_mul] at d
        have d2 : (i / j + 1) * j ≤ (i / j + 1) * 1 := Int.mul_le_mul_of_nonpos_left (by omega) (by omega)
        rw [Int.add_mul, Int.one_mul, Int.mul_one] at d2
        omega
    omega
theorem Sz.log {n : Nat} {i : Int} (h : Sz (n + 1) i) : i.natAbs.log2 ≤ n := by
  by_cases hz : i.natAbs = 0
  · rw [hz]; exact Nat.zero_le _
  · have := (Nat.log2_lt hz).mpr h
    omega
theorem Sz.lit {n : Nat} {i : Int} (h : decide (i.natAbs < 2 ^ n) = true) : Sz n i := show i.natAbs < 2 ^ n from of_decide_eq_true h
theorem Sz.ofbits {i : Int} {n : Nat} (h : Builtin.Int.intBits i ≤ n) : Sz n i := by
  unfold Sz
  unfold Builtin.Int.intBits at h
  by_cases hz : i.natAbs = 0
  · rw [hz]; exact Nat.two_pow_pos n
  · have hi : (i == 0) = false := by
      have : i ≠ 0 := by omega
      simpa using this
    rw [hi] at h
    exact (Nat.log2_lt hz).mp (by simp at h; omega)
theorem mul_ok {n m : Nat} {i j : Int} (h : Sz n i) (k : Sz m j) (l : n + m ≤ 100000000) : mulOk i j = true := by
  unfold mulOk
  have a := (h.mono (Nat.le_add_right n 1)).log
  have b := (k.mono (Nat.le_add_right m 1)).log
  exact decide_eq_true (by omega)
theorem div_ok {i j : Int} (hj : 0 < j) (k : Sz 9000 j) : divOk i j = true := by
  unfold divOk
  have b := Sz.log (n := 8999) k
  simp [hj]
  left; omega
end VL
/-! VLEq: == of values without bools. -/
namespace VL
open PySem
mutual
def D.nb : D → Bool
  | .non => true
  | .int _ => true
  | .str x => PyData.strOk x
  | .lst xs => D.nbs xs
  | .tup xs => D.nbs xs
  | .bl _ => false
  | .byt _ => false
  | .ins _ _ => false
def D.nbs : List D → Bool
  | [] => true
  | d :: ds => D.nb d && D.nbs ds
end
mutual
def D.dep : D → Nat
  | .lst xs => D.deps xs + 1
  | .tup xs => D.deps xs + 1
  | .non => 0
  | .int _ => 0
  | .str _ => 0
  | .bl _ => 0
  | .byt _ => 0
  | .ins _ _ => 0
def D.deps : List D → Nat
  | [] => 0
  | d :: ds => max (D.dep d) (D.deps ds)
end
mutual
theorem dep_pd : ∀ d : D, d.nb = true → PyData.depth d.toPD = d.dep
  | .non, _ => rfl
  | .int _, _ => rfl
  | .str _, _ => rfl
  | .lst xs, h => by
    unfold D.nb at h
    unfold D.toPD PyData.depth D.dep
    rw [deps_pd xs h]
  | .tup xs, h => by
    unfold D.nb at h
    unfold D.toPD PyData.depth D.dep
    rw [deps_pd xs h]
  | .bl _, h => by cases h
  | .byt _, h => by cases h
  | .ins _ _, h => by cases h
theorem deps_pd : ∀ ds : List D, D.nbs ds = true → PyData.depthAll (D.toPDs ds) = D.deps ds
  | [], _ => rfl
  | d :: ds, h => by
    unfold D.nbs at h
    obtain ⟨h1, h2⟩ := Bool.and_eq_true_iff.mp h
    unfold D.toPDs PyData.depthAll D.deps
    rw [dep_pd d h1, deps_pd ds h2]
end
mutual
theorem plain_nb : ∀ d : D, d.nb = true → d.plain = true ∧ PyData.canLay0 d.toPD = true
  | .non, _ => ⟨rfl, rfl⟩
  | .int _, _ => ⟨rfl, rfl⟩
  | .str _, h => ⟨rfl, h⟩
  | .lst xs, h => plains_nb xs h
  | .tup xs, h => plains_nb xs h
  | .bl _, h => by cases h
  | .byt _, h => by cases h
  | .ins _ _, h => by cases h
theorem plains_nb : ∀ ds : List D, D.nbs ds = true → D.plains ds = true ∧ PyData.canLayAll0 (D.toPDs ds) = true
  | [], _ => ⟨rfl, rfl⟩
  | d :: ds, h => by
    unfold D.nbs at h
    obtain ⟨h1, h2⟩ := Bool.and_eq_true_iff.mp h
    obtain ⟨a1, a2⟩ := plain_nb d h1
    obtain ⟨b1, b2⟩ := plains_nb ds h2
    unfold D.plains D.toPDs PyData.canLayAll0
    rw [a1, a2, b1, b2]
    exact ⟨rfl, rfl⟩
end
theorem eqOk_nb {d : D} (h : d.nb = true) (hd : d.dep ≤ 64) : d.eqOk = true := by
  obtain ⟨h1, h2⟩ := plain_nb d h
  unfold D.eqOk SeqAt.shaped
  rw [h1, h2, dep_pd d h]
  simpa using hd
mutual
theorem eqv_nb : ∀ a b : D, a.nb = true → b.nb = true → (D.eqv a b = true ↔ a = b)
  | .non, b, _, hb => by cases b <;> first | (cases hb; done) | simp [D.eqv, D.toPD, PyData.eqv]
  | .int i, b, _, hb => by cases b <;> first | (cases hb; done) | simp [D.eqv, D.toPD, PyData.eqv]
  | .str x, b, _, hb => by cases b <;> first | (cases hb; done) | simp [D.eqv, D.toPD, PyData.eqv]
  | .lst xs, b, ha, hb => by
    cases b <;> first | (cases hb; done) | (simp [D.eqv, D.toPD, PyData.eqv]; done) | skip
    rename_i ys
    have z := eqvs_nb xs ys ha hb
    simp only [D.eqv, D.toPD, PyData.eqv, D.lst.injEq]
    exact z
  | .tup xs, b, ha, hb => by
    cases b <;> first | (cases hb; done) | (simp [D.eqv, D.toPD, PyData.eqv]; done) | skip
    rename_i ys
    have z := eqvs_nb xs ys ha hb
    simp only [D.eqv, D.toPD, PyData.eqv, D.tup.injEq]
    exact z
  | .bl _, _, h, _ => by cases h
  | .byt _, _, h, _ => by cases h
  | .ins _ _, _, h, _ => by cases h
theorem eqvs_nb : ∀ as bs : List D, D.nbs as = true → D.nbs bs = true → (PyData.eqvAll (D.toPDs as) (D.toPDs bs) = true ↔ as = bs)
  | [], [], _, _ => by simp [D.toPDs, PyData.eqvAll]
  | [], b :: bs, _, _ => by simp [D.toPDs, PyData.eqvAll]
  | a :: as, [], _, _ => by simp [D.toPDs, PyData.eqvAll]
  | a :: as, b :: bs, ha, hb => by
    unfold D.nbs at ha hb
    obtain ⟨a1, a2⟩ := Bool.and_eq_true_iff.mp ha
    obtain ⟨b1, b2⟩ := Bool.and_eq_true_iff.mp hb
    have z1 := eqv_nb a b a1 b1
    have z2 := eqvs_nb as bs a2 b2
    unfold D.eqv at z1
    simp only [D.toPDs, PyData.eqvAll, Bool.and_eq_true, z1, z2, List.cons.injEq]
end
theorem eq_nb {a b : D} (ha : a.nb = true) (hb : b.nb = true) (da : a.dep ≤ 64) (db : b.dep ≤ 64) : opEq a b = .ok (.bl (D.eqv a b)) := by
  unfold opEq
  rw [eqOk_nb ha da, eqOk_nb hb db]
  rfl
theorem ne_nb {a b : D} (ha : a.nb = true) (hb : b.nb = true) (da : a.dep ≤ 64) (db : b.dep ≤ 64) : opNe a b = .ok (.bl (!D.eqv a b)) := by
  unfold opNe
  rw [eqOk_nb ha da, eqOk_nb hb db]
  rfl
theorem nbs_ints : ∀ xs : List Int, D.nbs (xs.map D.int) = true
  | [] => rfl
  | x :: xs => by
    show (D.nb (.int x) && D.nbs (xs.map D.int)) = true
    rw [nbs_ints xs]; rfl
theorem deps_ints : ∀ xs : List Int, D.deps (xs.map D.int) = 0
  | [] => rfl
  | x :: xs => by
    show max (D.dep (.int x)) (D.deps (xs.map D.int)) = 0
    rw [deps_ints xs]; rfl
theorem map_int_inj {xs ys : List Int} : xs.map D.int = ys.map D.int ↔ xs = ys := by
  constructor
  · exact fun h => List.map_inj_right (fun a b q => by cases q; rfl) |>.mp h
  · rintro rfl; rfl
/-- == of int lists -/
theorem eq_ints {xs ys : List Int} : opEq (.lst (xs.map D.int)) (.lst (ys.map D.int)) = .ok (.bl (decide (xs = ys))) := by
  have hx : (D.lst (xs.map D.int)).nb = true := nbs_ints xs
  have hy : (D.lst (ys.map D.int)).nb = true := nbs_ints ys
  have dx : (D.lst (xs.map D.int)).dep = 1 := congrArg (· + 1) (deps_ints xs)
  have dy : (D.lst (ys.map D.int)).dep = 1 := congrArg (· + 1) (deps_ints ys)
  rw [eq_nb hx hy (by omega) (by omega)]
  have z := eqv_nb _ _ hx hy
  congr 2
  rw [Bool.eq_iff_iff, z, decide_eq_true_iff, D.lst.injEq, map_int_inj]
theorem ne_ints {xs ys : List Int} : opNe (.lst (xs.map D.int)) (.lst (ys.map D.int)) = .ok (.bl (!decide (xs = ys))) := by
  have hx : (D.lst (xs.map D.int)).nb = true := nbs_ints xs
  have hy : (D.lst (ys.map D.int)).nb = true := nbs_ints ys
  have dx : (D.lst (xs.map D.int)).dep = 1 := congrArg (· + 1) (deps_ints xs)
  have dy : (D.lst (ys.map D.int)).dep = 1 := congrArg (· + 1) (deps_ints ys)
  rw [ne_nb hx hy (by omega) (by omega)]
  have z := eqv_nb _ _ hx hy
  congr 3
  rw [Bool.eq_iff_iff, z, decide_eq_true_iff, D.lst.injEq, map_int_inj]
theorem eq_self {a : D} (ha : a.nb = true) (da : a.dep ≤ 64) : opEq a a = .ok (.bl true) := by
  rw [eq_nb ha ha da da, (eqv_nb a a ha ha).mpr rfl]
end VL
/-! VLNum: plain numbers. -/
namespace VL
open PySem
def cen (a k : Int) : Int := k / 2 - (k / 2 - a) % k
theorem div2 (k : Int) : divOk k 2 = true := div_ok (by decide) (Sz.lit (by decide +kernel))
theorem two2 : Sz 2 (2 : Int) := Sz.lit (by decide)
def digs (b : Int) : Nat → Int → List Int × Int
  | 0, v => ([], v)
  | n + 1, v => (cen v b :: (digs b n ((v - cen v b) / b)).1, (digs b n ((v - cen v b) / b)).2)
def hor (b : Int) : Int → List Int → Int
  | n, [] => n
  | n, d :: ds => hor b (n * b + d) ds
def fd (b r : Int) : List Int → Int
  | [] => r
  | d :: ds => fd b r ds * b + d
theorem hor_app (b : Int) : ∀ (n : Int) (xs ys : List Int), hor b n (xs ++ ys) = hor b (hor b n xs) ys
  | n, [], ys => rfl
  | n, x :: xs, ys => by simp [hor, hor_app b]
theorem hor_rev (b r : Int) : ∀ ds : List Int, hor b r ds.reverse = fd b r ds
  | [] => rfl
  | d :: ds => by simp [hor_app, hor_rev b r ds, fd, hor]
def tot (b : Int) : Nat → Int
  | 0 => 0
  | n + 1 => tot b n * b + 1
theorem tot_sz {b : Int} (hz : Sz 17 b) : ∀ n, Sz (18 * n + 1) (tot b n)
  | 0 => Sz.lit (n := 1) (i := 0) (by decide)
  | n + 1 => (((tot_sz hz n).mul hz).add (Sz.mono (Sz.lit (n := 1) (by decide)) (by omega))).mono (by omega)
theorem lit_div {i j : Int} (h : 0 < j) (k : decide (j.natAbs < 2 ^ 9000) = true) : divOk i j = true := div_ok h (Sz.lit k)
def absI (x : Int) : Int := if x < 0 then -x else x
theorem cen_facts {a k : Int} (h : 1 ≤ k) : -k < 2 * cen a k ∧ 2 * cen a k ≤ k ∧ -((k - 1) / 2) ≤ cen a k ∧ cen a k ≤ k / 2 := by
  unfold cen
  have e1 := Int.emod_nonneg (k / 2 - a) (show k ≠ 0 by omega)
  have e2 := Int.emod_lt_of_pos (k / 2 - a) (show 0 < k by omega)
  refine ⟨?_, ?_, ?_, ?_⟩ <;> omega
theorem cen_dvd {a k : Int} (h : 1 ≤ k) : (a - cen a k) % k = 0 ∧ (a - cen a k) / k * k = a - cen a k := by
  have e : a - cen a k = k * (-((k / 2 - a) / k)) := by
    unfold cen
    have e3 := Int.mul_ediv_add_emod (k / 2 - a) k
    rw [Int.mul_neg]
    omega
  constructor
  · rw [e, Int.mul_emod_right]
  · rw [Int.ediv_mul_cancel]
    rw [e]
    exact Int.dvd_mul_right _ _
theorem digs_len (b : Int) : ∀ n v, (digs b n v).1.length = n
  | 0, v => rfl
  | n + 1, v => by simp [digs, digs_len b n]
theorem digs_dig {b : Int} (hb : 1 ≤ b) : ∀ n v, ∀ d ∈ (digs b n v).1, -b < 2 * d ∧ 2 * d ≤ b ∧ -((b - 1) / 2) ≤ d ∧ d ≤ b / 2
  | 0, v, d, h => by cases h
  | n + 1, v, d, h => by
    simp only [digs, List.mem_cons] at h
    rcases h with rfl | h
    · exact cen_facts hb
    · exact digs_dig hb n _ d h
theorem digs_val {b : Int} (hb : 1 ≤ b) : ∀ n v, fd b (digs b n v).2 (digs b n v).1 = v
  | 0, v => rfl
  | n + 1, v => by
    simp only [digs, fd]
    rw [digs_val hb n, (cen_dvd hb).2]
    omega
theorem digs_sz {b : Int} (hb : 1 ≤ b) (hz : Sz 17 b) : ∀ n v s, 18 ≤ s → Sz s v → Sz (s + n) (digs b n v).2
  | 0, v, s, _, h => h
  | n + 1, v, s, hs, h => by
    have c := cen_facts (a := v) hb
    have zc : Sz s (cen v b) := (hz.mono (by omega : 17 ≤ s)).le (by omega)
    have z := digs_sz hb hz n ((v - cen v b) / b) (s + 1) (by omega) ((h.sub zc).div (by omega))
    simp only [digs]
    exact z.mono (by omega)
theorem fd_split (b r : Int) : ∀ ds : List Int, fd b r ds = fd b 0 ds + r * b ^ ds.length
  | [] => by simp [fd]
  | d :: ds => by
    simp only [fd, List.length_cons, Int.pow_succ]
    rw [fd_split b r ds, Int.add_mul, Int.mul_assoc]
    omega
theorem fd_rg {b lo hi : Int} (hb : 0 ≤ b) : ∀ ds : List Int, (∀ d ∈ ds, lo ≤ d ∧ d ≤ hi) → lo * tot b ds.length ≤ fd b 0 ds ∧ fd b 0 ds ≤ hi * tot b ds.length
  | [], _ => by simp [fd, tot]
  | d :: ds, h => by
    have z := fd_rg hb ds fun x hx => h x (List.mem_cons_of_mem _ hx)
    have w := h d (List.mem_cons_self ..)
    simp only [fd, List.length_cons, tot, Int.mul_add, Int.mul_one, ← Int.mul_assoc]
    have z1 := Int.mul_le_mul_of_nonneg_right z.1 hb
    have z2 := Int.mul_le_mul_of_nonneg_right z.2 hb
    omega
theorem tot_pow (b : Int) : ∀ n, (b - 1) * tot b n + 1 = b ^ n
  | 0 => by simp [tot]
  | n + 1 => by
    have z := tot_pow b n
    rw [Int.pow_succ, ← z]
    simp only [tot, Int.mul_add, Int.add_mul, Int.mul_one, Int.one_mul, Int.mul_assoc]
    omega
theorem tot_nn {b : Int} (hb : 0 ≤ b) : ∀ n, 0 ≤ tot b n
  | 0 => Int.le_refl _
  | n + 1 => by
    have := Int.mul_nonneg (tot_nn hb n) hb
    simp only [tot]; omega
theorem rest_zero {b v : Int} {n : Nat} (hb : 1 ≤ b) : (digs b n v).2 = 0 ↔ -((b - 1) / 2) * tot b n ≤ v ∧ v ≤ b / 2 * tot b n := by
  have e := digs_val hb n v
  rw [fd_split, digs_len] at e
  have g := fd_rg (b := b) (lo := -((b - 1) / 2)) (hi := b / 2) (by omega) (digs b n v).1 fun d hd => (digs_dig hb n v d hd).2.2
  rw [digs_len] at g
  have p := tot_pow b n
  have t := tot_nn (b := b) (by omega) n
  generalize (digs b n v).2 = r at e ⊢
  generalize fd b 0 (digs b n v).1 = x at e g
  generalize hT : tot b n = T at g p t ⊢
  have hs : b / 2 + (b - 1) / 2 = b - 1 := by omega
  have q : b / 2 * T - (-((b - 1) / 2) * T) = (b - 1) * T := by rw [← Int.sub_mul]; congr 1; omega
  rw [← p] at e
  constructor
  · intro h
    rw [h, Int.zero_mul] at e
    omega
  · intro ⟨h1, h2⟩
    have t2 : 0 ≤ (b - 1) * T := Int.mul_nonneg (by omega) t
    generalize (b - 1) * T = W at e q t2
    by_cases h0 : r = 0
    · exact h0
    · exfalso
      by_cases hp : 0 < r
      · have : 1 * (W + 1) ≤ r * (W + 1) := Int.mul_le_mul_of_nonneg_right (by omega) (by omega)
        omega
      · have : r * (W + 1) ≤ -1 * (W + 1) := Int.mul_le_mul_of_nonneg_right (by omega) (by omega)
        omega
theorem tot_big {b : Int} (hb : 3 ≤ b) : ∀ n : Nat, 2 ^ n ≤ tot b n + 1
  | 0 => by simp [tot]
  | n + 1 => by
    have z := tot_big hb n
    have t := tot_nn (b := b) (by omega) n
    have m : tot b n * 3 ≤ tot b n * b := Int.mul_le_mul_of_nonneg_left hb t
    rw [Int.pow_succ]
    simp only [tot]
    omega
def cell (ns : List Int) (k : Nat) : Int := (ns[k]?).getD 0
theorem cell_sz {ns : List Int} (hb : ∀ z ∈ ns, Builtin.Int.intBits z ≤ 1048576) (k : Nat) : Sz 1048576 (cell ns k) := by
  unfold cell
  cases e : ns[k]? with
  | none => exact Sz.mono (Sz.lit (n := 1) (i := 0) (by decide)) (by decide)
  | some z => exact Sz.ofbits (hb z (List.mem_of_getElem? e))
/-- H is twice the half window: the degree is 2^n, there are 2^t slots -/
theorem pow_split {n t : Nat} (ht : t < n) : (2 : Int) ^ n = 2 ^ (n - t - 1) * (2 * 2 ^ t) := by
  have e : n = (n - t - 1) + (t + 1) := by omega
  rw [e, Int.pow_add, Int.pow_succ, Int.mul_comm (2 ^ t) 2]
  congr 2
  omega
theorem half_eq {n t : Nat} (ht : t < n) : (2 : Int) ^ n / (2 * 2 ^ t) = 2 ^ (n - t - 1) := by
  rw [pow_split ht, Int.mul_ediv_cancel]
  have : (0 : Int) < 2 ^ t := Int.pow_pos (by decide)
  omega
theorem pow_sz {n : Nat} : Sz (n + 1) ((2 : Int) ^ n) := by
  unfold Sz
  rw [Int.natAbs_pow]
  exact Nat.pow_lt_pow_right (by decide) (by omega)
theorem pow_le {n t : Nat} (ht : t < n) : 2 * (2 : Int) ^ t ≤ 2 ^ n := by
  have p := pow_split ht
  have q : (0 : Int) < 2 ^ (n - t - 1) := Int.pow_pos (by decide)
  have r : (0 : Int) < 2 ^ t := Int.pow_pos (by decide)
  have z : 1 * (2 * (2 : Int) ^ t) ≤ 2 ^ (n - t - 1) * (2 * 2 ^ t) := Int.mul_le_mul_of_nonneg_right (by omega) (by omega)
  omega
theorem pow2_pos {t : Nat} : (0 : Int) < 2 ^ t := Int.pow_pos (by decide)
theorem cen_uniq {v m c k : Int} (h : 1 ≤ m) (h1 : -m < 2 * c) (h2 : 2 * c ≤ m) (hk : v - c = m * k) : cen v m = c := by
  have f := cen_facts (a := v) h
  have dv := cen_dvd (a := v) h
  have e : v - cen v m = m * ((v - cen v m) / m) := by rw [Int.mul_comm]; exact dv.2.symm
  generalize (v - cen v m) / m = j at e
  have e2 : cen v m - c = m * (k - j) := by rw [Int.mul_sub]; omega
  by_cases hkj : k - j = 0
  · rw [hkj, Int.mul_zero] at e2; omega
  · exfalso
    by_cases hp : 0 < k - j
    · have : m * 1 ≤ m * (k - j) := Int.mul_le_mul_of_nonneg_left (by omega) (by omega)
      omega
    · have : m * (k - j) ≤ m * (-1) := Int.mul_le_mul_of_nonneg_left (by omega) (by omega)
      omega
theorem cen_mod {v m : Int} (h : 1 ≤ m) : (if 2 * (v % m) > m then v % m - m else v % m) = cen v m := by
  have a1 := Int.emod_nonneg v (show m ≠ 0 by omega)
  have a2 := Int.emod_lt_of_pos v (show 0 < m by omega)
  have e3 := Int.mul_ediv_add_emod v m
  split
  · exact (cen_uniq h (by omega) (by omega) (k := v / m + 1) (by rw [Int.mul_add]; omega)).symm
  · exact (cen_uniq h (by omega) (by omega) (k := v / m) (by omega)).symm
theorem cen_shift {v w m k : Int} (h : 1 ≤ m) (e : v - w = m * k) : cen v m = cen w m := by
  have f := cen_facts (a := w) h
  have dv := cen_dvd (a := w) h
  refine cen_uniq h f.1 f.2.1 (k := k + (w - cen w m) / m) ?_
  rw [Int.mul_add, Int.mul_comm m ((w - cen w m) / m), dv.2]
  omega
theorem rangeD_succ {s : Int} {m : Nat} : rangeD s (m + 1) = .int s :: rangeD (s + 1) m := by
  unfold rangeD
  rw [List.range_succ_eq_map, List.map_cons, List.map_map, List.cons.injEq]
  refine ⟨by simp, List.map_congr_left fun k _ => ?_⟩
  show D.int (s + ((k + 1 : Nat) : Int)) = D.int (s + 1 + (k : Int))
  congr 1; omega
theorem rangeD_zero {s : Int} : rangeD s 0 = [] := rfl
/-- the window of a slot -/
theorem window_iff {n t : Nat} {p s : Int} (ht : t < n) (s0 : 0 ≤ s) (s1 : s < 2 * 2 ^ t) :
    (-(2 : Int) ^ (n - t - 1) ≤ cen (p - 2 * 2 ^ (n - t - 1) * s) (2 * 2 ^ n) ∧ cen (p - 2 * 2 ^ (n - t - 1) * s) (2 * 2 ^ n) < 2 ^ (n - t - 1)) ↔ s = (p + 2 ^ (n - t - 1)) % (2 * 2 ^ n) / (2 * 2 ^ (n - t - 1)) := by
  have ph : (0 : Int) < 2 ^ (n - t - 1) := pow2_pos
  have pt : (0 : Int) < 2 ^ t := pow2_pos
  have pn : (0 : Int) < 2 ^ n := pow2_pos
  have sp := pow_split ht
  have e0 : (2 : Int) * 2 ^ n = 2 * 2 ^ (n - t - 1) * (2 * 2 ^ t) := by rw [sp, Int.mul_assoc]
  generalize (2 : Int) ^ (n - t - 1) = g at *
  generalize hS : 2 * (2 : Int) ^ t = S at *
  generalize hM : 2 * (2 : Int) ^ n = M at *
  have f := cen_facts (a := p - 2 * g * s) (k := M) (by omega)
  have dv := (cen_dvd (a := p - 2 * g * s) (k := M) (by omega)).2
  have x0 := Int.emod_nonneg (p + g) (show M ≠ 0 by omega)
  have x1 := Int.emod_lt_of_pos (p + g) (show 0 < M by omega)
  have x2 := Int.mul_ediv_add_emod (p + g) M
  generalize (p + g) / M = j2 at x2
  generalize (p + g) % M = x at x0 x1 x2 ⊢
  constructor
  · intro ⟨h1, h2⟩
    generalize cen (p - 2 * g * s) M = c at f dv h1 h2
    generalize (p - 2 * g * s - c) / M = j at dv
    have ex : x = (c + g) + 2 * g * (s + S * (j - j2)) := by
      rw [Int.mul_add, ← Int.mul_assoc, ← e0, Int.mul_sub]
      rw [Int.mul_comm] at dv
      omega
    have u := (Int.ediv_emod_unique (a := x) (b := 2 * g) (r := c + g) (q := s + S * (j - j2)) (by omega)).mpr ⟨ex.symm, by omega, by omega⟩
    rw [u.1]
    have q0 : 0 ≤ x / (2 * g) := Int.ediv_nonneg x0 (by omega)
    have q1 : x / (2 * g) < S := by
      refine Int.ediv_lt_of_lt_mul (by omega) ?_
      rw [Int.mul_comm, ← e0]; exact x1
    rw [u.1] at q0 q1
    by_cases hj : j - j2 = 0
    · rw [hj, Int.mul_zero, Int.add_zero]
    · exfalso
      by_cases hp : 0 < j - j2
      · have : S * 1 ≤ S * (j - j2) := Int.mul_le_mul_of_nonneg_left (by omega) (by omega)
        omega
      · have : S * (j - j2) ≤ S * (-1) := Int.mul_le_mul_of_nonneg_left (by omega) (by omega)
        omega
  · intro hs
    have r0 := Int.emod_nonneg x (show 2 * g ≠ 0 by omega)
    have r1 := Int.emod_lt_of_pos x (show 0 < 2 * g by omega)
    have r2 := Int.mul_ediv_add_emod x (2 * g)
    rw [← hs] at r2
    have big : 2 * g * 2 ≤ M := by
      rw [e0]
      exact Int.mul_le_mul_of_nonneg_left (by omega) (by omega)
    have u : cen (p - 2 * g * s) M = x % (2 * g) - g := cen_uniq (by omega) (by omega) (by omega) (k := j2) (by omega)
    rw [u]
    omega
/-! lists of ints -/
theorem comp_ints {it : M (List D)} {t : Bd} {e : M D} {own : List Nat} {η : Env} {xs : List Int} (g : Int → Int) (h1 : it η = .ok (xs.map D.int)) (h : ∀ x ∈ xs, ∃ η1, t (.int x) (wipeE η own) = some η1 ∧ e η1 = .ok (.int (g x))) (hl : xs.length ≤ 100000) : dComp it t qYes e own η = .ok (.lst ((xs.map g).map D.int)) := by
  have z := dComp_map (it := it) (t := t) (e := e) (own := own) (η := η) (xs := xs.map D.int) (fun d => match d with | .int i => .int (g i) | d => d) h1 (fun x hx => by
    obtain ⟨i, hi, rfl⟩ := List.mem_map.mp hx
    exact h i hi) (le_line (by simpa using hl))
  rw [z, List.map_map, List.map_map]
  rfl
theorem compGo_filt {t : Bd} {q : M Bool} {e : M D} {η : Env} {p : D → Bool} {g : D → D} : ∀ (xs acc : List D), (∀ x ∈ xs, ∃ η1, t x η = some η1 ∧ q η1 = .ok (p x) ∧ (p x = true → e η1 = .ok (g x))) → acc.length + xs.length ≤ line → compGo t q e η xs acc = .ok (acc ++ (xs.filter p).map g)
  | [], acc, _, _ => by unfold compGo; simp
  | x :: xs, acc, h, hl => by
    obtain ⟨η1, e1, e2, e3⟩ := h x (List.mem_cons_self ..)
    have hr := fun y hy => h y (List.mem_cons_of_mem _ hy)
    unfold compGo
    rw [e1]
    simp only [e2]
    cases hp : p x with
    | true =>
      simp only [e3 hp]
      rw [if_pos (by simp at hl; omega), compGo_filt xs _ hr (by simp at hl ⊢; omega)]
      simp [hp]
    | false =>
      simp only []
      rw [compGo_filt xs _ hr (by simp at hl ⊢; omega)]
      simp [hp]
theorem comp_filt {it : M (List D)} {t : Bd} {q : M Bool} {e : M D} {own : List Nat} {η : Env} {xs : List Int} (p : Int → Bool) (g : Int → Int) (h1 : it η = .ok (xs.map D.int)) (h : ∀ x ∈ xs, ∃ η1, t (.int x) (wipeE η own) = some η1 ∧ q η1 = .ok (p x) ∧ (p x = true → e η1 = .ok (.int (g x)))) (hl : xs.length ≤ 100000) : dComp it t q e own η = .ok (.lst (((xs.filter p).map g).map D.int)) := by
  unfold dComp
  rw [h1, ev_bind, compGo_filt (p := fun d => match d with | .int i => p i | _ => false) (g := fun d => match d with | .int i => .int (g i) | d => d) (xs.map D.int) [] (fun x hx => by
    obtain ⟨i, hi, rfl⟩ := List.mem_map.mp hx
    exact h i hi) (by simp; exact le_line hl)]
  rw [List.filter_map, List.map_map, List.map_map]
  rfl
theorem ints_of : ∀ xs : List Int, ints? (xs.map D.int) = some xs
  | [] => rfl
  | x :: xs => by
    show (ints? (xs.map D.int)).map (x :: ·) = _
    rw [ints_of xs]; rfl
theorem sum_ints (xs : List Int) : fSum [.lst (xs.map D.int)] = .ok (.int xs.sum) := by
  show (match ints? (xs.map D.int) with | some ns => Res.ok (D.int ns.sum) | _ => .stuck) = _
  rw [ints_of]
theorem max_ints (x : Int) (xs : List Int) : fMax [.lst ((x :: xs).map D.int)] = .ok (.int (maxL (x :: xs))) := by
  show (match ints? ((x :: xs).map D.int) with | some (a :: r) => Res.ok (D.int (maxL (a :: r))) | _ => .stuck) = _
  rw [ints_of]
theorem ints_get {ts : List Int} {k : Int} (h0 : 0 ≤ k) (h1 : k < (ts.length : Nat)) : opIx (.lst (ts.map D.int)) (.int k) = .ok (.int (ts.getD k.toNat 0)) := by
  have e : k = ((k.toNat : Nat) : Int) := (Int.toNat_of_nonneg h0).symm
  have l : k.toNat < ts.length := by omega
  have g : (ts.map D.int)[k.toNat]? = some (.int (ts.getD k.toNat 0)) := by
    rw [List.getElem?_map, List.getElem?_eq_getElem l, List.getD_eq_getElem?_getD, List.getElem?_eq_getElem l]; rfl
  have z := ev_ixN g
  rw [← e] at z
  exact z
theorem ints_at {ts : List Int} {k : Nat} {x : Int} (h : ts[k]? = some x) : opIx (.lst (ts.map D.int)) (.int (k : Int)) = .ok (.int x) := ev_ixN (by rw [List.getElem?_map, h]; rfl)
/-! bits -/
def rnd (v d : Int) : Int := (2 * v + d) / (2 * d)
def sel : Int → List Int → Int
  | _, [] => 0
  | n, x :: xs => (if n % 2 = 1 then x else 0) + sel (n / 2) xs
def msk (p : Int → Bool) : List Int → Int
  | [] => 0
  | x :: xs => (if p x then 1 else 0) + 2 * msk p xs
def sumP (p : Int → Bool) (xs : List Int) : Int := (xs.filter p).sum
theorem sel_msk (p : Int → Bool) : ∀ xs : List Int, sel (msk p xs) xs = sumP p xs
  | [] => rfl
  | x :: xs => by
    have ih := sel_msk p xs
    unfold sumP at *
    cases hp : p x with
    | true =>
      simp only [sel, msk, hp, if_true, List.filter_cons, List.sum_cons]
      rw [if_pos (by omega), show (1 + 2 * msk p xs) / 2 = msk p xs by omega, ih]
    | false =>
      simp only [sel, msk, hp, List.filter_cons, Bool.false_eq_true, if_false]
      rw [if_neg (by omega), show (0 + 2 * msk p xs) / 2 = msk p xs by omega, ih, Int.zero_add]
theorem msk_rg (p : Int → Bool) : ∀ xs : List Int, 0 ≤ msk p xs ∧ msk p xs < 2 ^ xs.length
  | [] => ⟨Int.le_refl _, by simp [msk]⟩
  | x :: xs => by
    have ih := msk_rg p xs
    simp only [msk, List.length_cons, Int.pow_succ]
    split <;> omega
def pos (x : Int) : Bool := decide (0 < x)
def neg (x : Int) : Bool := decide (x < 0)
theorem sel_rg : ∀ (n : Int) (xs : List Int), sumP neg xs ≤ sel n xs ∧ sel n xs ≤ sumP pos xs
  | _, [] => ⟨Int.le_refl _, Int.le_refl _⟩
  | n, x :: xs => by
    have ih := sel_rg (n / 2) xs
    unfold sumP at *
    simp only [sel, List.filter_cons]
    by_cases h1 : 0 < x
    · rw [show pos x = true from decide_eq_true h1, show neg x = false from decide_eq_false (by omega)]
      simp only [Bool.false_eq_true, if_true, if_false, List.sum_cons]
      split <;> omega
    · by_cases h2 : x < 0
      · rw [show pos x = false from decide_eq_false h1, show neg x = true from decide_eq_true h2]
        simp only [Bool.false_eq_true, if_true, if_false, List.sum_cons]
        split <;> omega
      · rw [show pos x = false from decide_eq_false h1, show neg x = false from decide_eq_false h2]
        simp only [Bool.false_eq_true, if_false]
        split <;> omega
theorem sel_zero : ∀ xs : List Int, sel 0 xs = 0
  | [] => rfl
  | x :: xs => by simp [sel, sel_zero xs]
theorem sel_neg (f : Int → Int) : ∀ (n : Int) (xs : List Int), sel n (xs.map f) = sel n (xs.map f)
  | _, _ => rfl
theorem div_pow_succ (n : Int) (k : Nat) : n / 2 ^ (k + 1) = n / 2 ^ k / 2 := by
  rw [Int.pow_succ, Int.ediv_ediv_of_nonneg (Int.le_of_lt (Int.pow_pos (by decide)))]
theorem bit_one {z : Int} (h : 0 ≤ z) : Builtin.bitAnd z 1 = z % 2 := by
  unfold Builtin.bitAnd
  have h1 : decide (0 ≤ z) = true := decide_eq_true h
  rw [h1]
  show (((z.toNat &&& (1 : Int).toNat : Nat)) : Int) = z % 2
  rw [show (1 : Int).toNat = 1 from rfl, Nat.and_one_is_mod]
  omega
theorem bit_low {z : Int} (h : 0 ≤ z) (k : Nat) : Builtin.bitAnd z (2 ^ k - 1) = z % 2 ^ k := by
  unfold Builtin.bitAnd
  have p := pow2_pos (t := k)
  have h1 : decide (0 ≤ z) = true := decide_eq_true h
  have h2 : decide (0 ≤ (2 : Int) ^ k - 1) = true := decide_eq_true (by omega)
  rw [h1, h2]
  show (((z.toNat &&& ((2 : Int) ^ k - 1).toNat : Nat)) : Int) = z % 2 ^ k
  have e : ((2 : Int) ^ k - 1).toNat = 2 ^ k - 1 := by
    have : ((2 ^ k : Nat) : Int) = (2 : Int) ^ k := by rw [Int.natCast_pow]; rfl
    omega
  rw [e, Nat.and_two_pow_sub_one_eq_mod, Int.natCast_emod, Int.toNat_of_nonneg h, Int.natCast_pow]; rfl
/-- a bit, as the programs look at it -/
theorem ev_bit {n : Int} {k : Nat} (h : 0 ≤ n) : (opShr (.int n) (.int (k : Int))) = .ok (.int (n / 2 ^ k)) := by
  rw [ev_shr (by omega), Int.toNat_natCast]
theorem div_nn {n : Int} (h : 0 ≤ n) (k : Nat) : 0 ≤ n / 2 ^ k := Int.ediv_nonneg h (Int.le_of_lt pow2_pos)
end VL
/-! VTCore: typed values; what typed text does; that the tree functions do the same. -/
namespace VT
open PySem hiding Env
open VL
class Enc (α : Type) where
  enc : α → D
open Enc
instance eInt : Enc Int := ⟨D.int⟩
instance eBool : Enc Bool := ⟨D.bl⟩
instance eUnit : Enc Unit := ⟨fun _ => .non⟩
instance eD : Enc D := ⟨fun d => d⟩
instance eStr : Enc Str := ⟨D.str⟩
section
variable {α β γ δ ε : Type} [Enc α] [Enc β] [Enc γ] [Enc δ] [Enc ε]
instance eList : Enc (List α) := ⟨fun xs => .lst (xs.map enc)⟩
instance eProd : Enc (α × β) := ⟨fun p => .tup [enc p.1, enc p.2]⟩
instance eOpt : Enc (Option α) := ⟨fun o => match o with | none => .non | some a => enc a⟩
end
/-- a tuple of any length -/
structure Tup (α : Type) where
  items : List α
structure T3 (α β γ : Type) where
  a : α
  b : β
  c : γ
structure T4 (α β γ δ : Type) where
  a : α
  b : β
  c : γ
  d : δ
structure T5 (α β γ δ ε : Type) where
  a : α
  b : β
  c : γ
  d : δ
  e : ε
structure T1 (α : Type) where
  a : α
section
variable {α β γ δ ε : Type} [Enc α] [Enc β] [Enc γ] [Enc δ] [Enc ε]
instance eTup : Enc (Tup α) := ⟨fun t => .tup (t.items.map enc)⟩
instance eT1 : Enc (T1 α) := ⟨fun p => .tup [enc p.a]⟩
instance eT3 : Enc (T3 α β γ) := ⟨fun p => .tup [enc p.a, enc p.b, enc p.c]⟩
instance eT4 : Enc (T4 α β γ δ) := ⟨fun p => .tup [enc p.a, enc p.b, enc p.c, enc p.d]⟩
instance eT5 : Enc (T5 α β γ δ ε) := ⟨fun p => .tup [enc p.a, enc p.b, enc p.c, enc p.d, enc p.e]⟩
end
/-! ### the one judgement -/
def Sm {α δ : Type} (e : α → δ) (d : Res δ) (r : Res α) : Prop := match r with
  | .ok x => d = .ok (e x)
  | .exc er => d = .exc er
  | .stuck => True
section
variable {α β δ ε : Type} {e : α → δ} {e' : β → ε} {d : Res δ} {r : Res α}
theorem bP {x : α} {k : δ → Res ε} {t : Res β} (h : Sm e d (.ok x)) (g : Sm e' (k (e x)) t) : Sm e' (d.bind k) t := by
  have h' : d = .ok (e x) := h
  subst h'
  exact g
theorem bE {k : δ → Res ε} {t : α → Res β} (h : Sm e d r) (g : ∀ x, Sm e' (k (e x)) (t x)) : Sm e' (d.bind k) (r.bind t) := by
  cases r with
  | ok x => exact bP h (g x)
  | exc er =>
    have h' : d = .exc er := h
    subst h'
    exact rfl
  | stuck => exact trivial
theorem Sm.self {r : Res D} : Sm (enc : D → D) r r := by cases r <;> first | rfl | trivial
theorem Sm.cases {P : Prop} {x : α} (h : Sm e d (.ok x)) : d = .ok (e x) := h
end
/-! ### environments by slots -/
abbrev En := List (Nat × D)
def lk : En → Nat → Option D
  | [], _ => none
  | (j, d) :: L, i => if Nat.beq j i = true then some d else lk L i
def Has (η : Env) (L : En) : Prop := ∀ i d, lk L i = some d → η[i]? = some (some d)
theorem lk_cons {j i : Nat} {d : D} {L : En} : lk ((j, d) :: L) i = if Nat.beq j i = true then some d else lk L i := rfl
theorem Has.var {η : Env} {L : En} (h : Has η L) (i : Nat) {d : D} (e : lk L i = some d) : dVar i η = .ok d := by
  unfold dVar
  rw [h i d e]
theorem Has.set {η : Env} {L : En} (h : Has η L) (i : Nat) {d : D} (hi : i < η.length) : Has (η.set i (some d)) ((i, d) :: L) := by
  intro j c e
  rw [lk_cons] at e
  by_cases hj : Nat.beq i j = true
  · rw [if_pos hj] at e
    have hij : i = j := Nat.eq_of_beq_eq_true hj
    cases e
    subst hij
    simp [hi]
  · rw [if_neg hj] at e
    have hij : i ≠ j := fun q => hj (by subst q; exact Nat.beq_refl i)
    rw [List.getElem?_set_ne hij]
    exact h j c e
def kick (L : En) (own : List Nat) : En := L.filter fun p => !(own.contains p.1)
theorem lk_filter {p : Nat → Bool} : ∀ {L : En} {i : Nat} {d : D}, lk (L.filter fun q => p q.1) i = some d → p i = true ∧ lk L i = some d
  | [], i, d, h => by cases h
  | (j, c) :: L, i, d, h => by
    rw [List.filter_cons] at h
    by_cases hp : p j = true
    · rw [if_pos hp, lk_cons] at h
      rw [lk_cons]
      by_cases hj : Nat.beq j i = true
      · rw [if_pos hj] at h ⊢
        have : j = i := Nat.eq_of_beq_eq_true hj
        exact ⟨this ▸ hp, h⟩
      · rw [if_neg hj] at h ⊢
        exact lk_filter h
    · rw [if_neg hp] at h
      obtain ⟨h1, h2⟩ := lk_filter h
      refine ⟨h1, ?_⟩
      rw [lk_cons]
      by_cases hj : Nat.beq j i = true
      · have : j = i := Nat.eq_of_beq_eq_true hj
        subst this
        exact absurd h1 hp
      · rw [if_neg hj]; exact h2
theorem Has.none {η : Env} {L : En} (h : Has η L) (i : Nat) (n : lk L i = none) : Has (η.set i none) L := by
  intro j c e
  by_cases hij : i = j
  · subst hij; rw [n] at e; cases e
  · rw [List.getElem?_set_ne hij]
    exact h j c e
theorem wipe_len : ∀ (own : List Nat) (η : Env), (wipeE η own).length = η.length
  | [], _ => rfl
  | v :: vs, η => by
    show ((wipeE η vs).set v none).length = _
    rw [List.length_set, wipe_len vs]
theorem wipe_get : ∀ (own : List Nat) (η : Env) (i : Nat), own.contains i = false → (wipeE η own)[i]? = η[i]?
  | [], _, _, _ => rfl
  | v :: vs, η, i, h => by
    rw [List.contains_cons, Bool.or_eq_false_iff] at h
    show ((wipeE η vs).set v none)[i]? = _
    have hv : v ≠ i := fun q => by simp [q] at h
    rw [List.getElem?_set_ne hv]
    exact wipe_get vs η i h.2
theorem Has.wipe {η : Env} {L : En} (h : Has η L) (own : List Nat) : Has (wipeE η own) (kick L own) := by
  intro i d e
  obtain ⟨h1, h2⟩ := lk_filter (p := fun j => !(own.contains j)) e
  rw [wipe_get own η i (by simpa using h1)]
  exact h i d h2
/-- L' is a part of L -/
def Sub (L L' : En) : Prop := ∀ η, Has η L → Has η L'
def subB (L : En) : En → Prop
  | [] => True
  | (i, d) :: L' => lk L i = some d ∧ subB L L'
theorem subB_lk {L : En} : ∀ {L' : En} {i : Nat} {d : D}, subB L L' → lk L' i = some d → lk L i = some d
  | [], i, d, _, h => by cases h
  | (j, c) :: L', i, d, h, e => by
    rw [lk_cons] at e
    by_cases hj : Nat.beq j i = true
    · rw [if_pos hj] at e
      have : j = i := Nat.eq_of_beq_eq_true hj
      cases e
      exact this ▸ h.1
    · rw [if_neg hj] at e
      exact subB_lk h.2 e
theorem Sub.of {L L' : En} (h : subB L L') : Sub L L' := fun η hη i d e => hη i d (subB_lk h e)
theorem Sub.nil {L : En} : Sub L [] := fun η _ i d e => by cases e
theorem Sub.refl {L : En} : Sub L L := fun η h => h
def idx : Nat → List D → En
  | _, [] => []
  | k, d :: ds => (k, d) :: idx (k + 1) ds
theorem idx_lk : ∀ {ds : List D} {k i : Nat} {d : D}, lk (idx k ds) i = some d → k ≤ i ∧ ds[i - k]? = some d
  | [], k, i, d, h => by cases h
  | c :: ds, k, i, d, h => by
    have h' : (if Nat.beq k i = true then some c else lk (idx (k + 1) ds) i) = some d := h
    by_cases hj : Nat.beq k i = true
    · rw [if_pos hj] at h'
      have : k = i := Nat.eq_of_beq_eq_true hj
      subst this
      cases h'
      simp
    · rw [if_neg hj] at h'
      obtain ⟨h1, h2⟩ := idx_lk h'
      refine ⟨by omega, ?_⟩
      rw [show i - k = (i - (k + 1)) + 1 by omega]
      exact h2
theorem Has.init {ds : List D} {r : Env} : Has (ds.map some ++ r) (idx 0 ds) := fun i d h => by
  obtain ⟨_, h2⟩ := idx_lk h
  rw [Nat.sub_zero] at h2
  have hi := (List.getElem?_eq_some_iff.mp h2).1
  rw [List.getElem?_append_left (by simpa using hi), List.getElem?_map, h2]
  rfl
/-! ### typed statements -/
inductive TF (β σ ρ : Type) where
  | nx (s : σ) | rt (r : ρ) | bk (b : β) | ct (b : β) | ex (e : Er) | stuck
section
variable {α β σ τ ρ : Type}
def TF.bind (t : TF β σ ρ) (k : σ → TF β τ ρ) : TF β τ ρ := match t with
  | .nx s => k s
  | .rt r => .rt r
  | .bk b => .bk b
  | .ct b => .ct b
  | .ex e => .ex e
  | .stuck => .stuck
def onE (r : Res α) (k : α → TF β σ ρ) : TF β σ ρ := match r with
  | .ok a => k a
  | .exc e => .ex e
  | .stuck => .stuck
def tFor : List α → σ → (α → σ → TF σ σ ρ) → TF β σ ρ
  | [], s, _ => .nx s
  | x :: xs, s, f => match f x s with
    | .nx s' => tFor xs s' f
    | .ct s' => tFor xs s' f
    | .bk s' => .nx s'
    | .rt r => .rt r
    | .ex e => .ex e
    | .stuck => .stuck
def tWhileN (q : σ → Res Bool) (f : σ → TF σ σ ρ) : Nat → σ → TF β σ ρ
  | 0, _ => .stuck
  | n + 1, s => onE (q s) fun c => if c then (match f s with
    | .nx s' => tWhileN q f n s'
    | .ct s' => tWhileN q f n s'
    | .bk s' => .nx s'
    | .rt r => .rt r
    | .ex e => .ex e
    | .stuck => .stuck) else .nx s
open Classical in
noncomputable def tWhile (q : σ → Res Bool) (s : σ) (f : σ → TF σ σ ρ) : TF β σ ρ := if h : ∃ n, tWhileN (β := β) q f n s ≠ .stuck then tWhileN q f (Classical.choose h) s else .stuck
/-- try: t except c: h -/
def tTry (t : TF β σ ρ) (c : Er) (h : Er → TF β σ ρ) : TF β σ ρ := match t with
  | .ex e => if e.own then (if e.sub c then (match h e with | .ex _ => .stuck | r => r) else .ex e) else .stuck
  | r => r
def tRun (t : TF Unit Unit ρ) : Res ρ := match t with
  | .rt r => .ok r
  | .ex e => .exc e
  | _ => .stuck
def tRunF (r0 : ρ) (t : TF Unit Unit ρ) : Res ρ := match t with
  | .rt r => .ok r
  | .nx _ => .ok r0
  | .ex e => .exc e
  | _ => .stuck
end
/-! ### statements: the judgement -/
section
variable {α β σ τ ρ : Type} [Enc ρ]
def Post (N : Nat) (X : En) (Lb : β → En) (Ls : σ → En) (fl : Fl) : TF β σ ρ → Prop
  | .nx s => ∃ η, fl = .nx η ∧ η.length = N ∧ Has η (Ls s)
  | .rt r => fl = .rt (enc r)
  | .bk b => ∃ η, fl = .bk η ∧ η.length = N ∧ Has η (Lb b)
  | .ct b => ∃ η, fl = .ct η ∧ η.length = N ∧ Has η (Lb b)
  | .ex e => ∃ η, fl = .ex e η ∧ η.length = N ∧ Has η X
  | .stuck => True
def runK : List (Env → Fl) → Env → Fl
  | [], η => .nx η
  | m :: ms, η => match m η with
    | .nx η' => runK ms η'
    | r => r
def SimK (N : Nat) (X : En) (Lb : β → En) (Ls : σ → En) (ms : List (Env → Fl)) (L : En) (t : TF β σ ρ) : Prop := ∀ η, η.length = N → Has η L → Post N X Lb Ls (runK ms η) t
/-- a target: it binds d -/
def SimT (N : Nat) (b : Bd) (d : D) (L L1 : En) : Prop := ∀ η, η.length = N → Has η L → ∃ η1, b d η = some η1 ∧ η1.length = N ∧ Has η1 L1
variable {N : Nat} {X L L1 : En} {Lb : β → En} {Ls : σ → En} {m m1 m2 : Env → Fl} {ms : List (Env → Fl)}
theorem k_end {s : σ} (h : Sub L (Ls s)) : SimK N X Lb Ls [] L (.nx s : TF β σ ρ) := fun η hl hη => ⟨η, rfl, hl, h η hη⟩
theorem k_seq {t : TF β σ ρ} (h : SimK N X Lb Ls (m1 :: m2 :: ms) L t) : SimK N X Lb Ls (sSeq m1 m2 :: ms) L t := fun η hl hη => by
  have z := h η hl hη
  have e : runK (sSeq m1 m2 :: ms) η = runK (m1 :: m2 :: ms) η := by
    show (match sSeq m1 m2 η with | .nx η' => runK ms η' | r => r) = (match m1 η with | .nx η' => runK (m2 :: ms) η' | r => r)
    unfold sSeq
    cases m1 η <;> rfl
  rw [e]; exact z
theorem k_next {t : TF β σ ρ} (h : SimK N X Lb Ls ms L t) : SimK N X Lb Ls (sNext :: ms) L t := fun η hl hη => h η hl hη
theorem onE_post {fl : Fl} {d : Res D} {e : α → D} {r : Res α} {η : Env} {k : D → Fl} {kt : α → TF β σ ρ} (h : Sm e d r) (hl : η.length = N) (hX : Has η X) (g : ∀ x, Post N X Lb Ls (match k (e x) with | .nx η' => runK ms η' | r => r) (kt x)) : Post N X Lb Ls (match onRes d η k with | .nx η' => runK ms η' | r => r) (onE r kt) := by
  cases r with
  | ok x =>
    have h' : d = .ok (e x) := h
    subst h'
    exact g x
  | exc er =>
    have h' : d = .exc er := h
    subst h'
    exact ⟨η, rfl, hl, hX⟩
  | stuck => exact trivial
theorem onB_post {δ : Type} {d : Res δ} {e : α → δ} {r : Res α} {η : Env} {k : δ → Fl} {kt : α → TF β σ ρ} (h : Sm e d r) (hl : η.length = N) (hX : Has η X) (g : ∀ x, Post N X Lb Ls (match k (e x) with | .nx η' => runK ms η' | r => r) (kt x)) : Post N X Lb Ls (match onRes d η k with | .nx η' => runK ms η' | r => r) (onE r kt) := by
  cases r with
  | ok x =>
    have h' : d = .ok (e x) := h
    subst h'
    exact g x
  | exc er =>
    have h' : d = .exc er := h
    subst h'
    exact ⟨η, rfl, hl, hX⟩
  | stuck => exact trivial
variable [Enc α] {a b : M D} {i j : Nat} {q : M Bool}
theorem t_name (i : Nat) {d : D} (hi : i < N) : SimT N (bName i) d L ((i, d) :: L) := fun η hl hη => ⟨η.set i (some d), if_pos (by omega), by rw [List.length_set]; exact hl, hη.set i (by omega)⟩
def SimTs (N : Nat) (b : List D → Env → Option Env) (ds : List D) (L L1 : En) : Prop := ∀ η, η.length = N → Has η L → ∃ η1, b ds η = some η1 ∧ η1.length = N ∧ Has η1 L1
theorem ts_nil : SimTs N bNil [] L L := fun η hl hη => ⟨η, rfl, hl, hη⟩
theorem ts_cons {b : Bd} {r : List D → Env → Option Env} {d : D} {ds : List D} {L2 : En} (h1 : SimT N b d L L1) (h2 : SimTs N r ds L1 L2) : SimTs N (bCons b r) (d :: ds) L L2 := fun η hl hη => by
  obtain ⟨η1, e1, l1, a1⟩ := h1 η hl hη
  obtain ⟨η2, e2, l2, a2⟩ := h2 η1 l1 a1
  refine ⟨η2, ?_, l2, a2⟩
  show (b d η).bind (r ds) = some η2
  rw [e1]; exact e2
theorem t_tup {r : List D → Env → Option Env} {ds : List D} (h : SimTs N r ds L L1) : SimT N (bTup r) (.tup ds) L L1 := h
theorem t_lst {r : List D → Env → Option Env} {ds : List D} (h : SimTs N r ds L L1) : SimT N (bTup r) (.lst ds) L L1 := h
theorem k_asgP {x : α} {t : TF β σ ρ} (hi : i < N) (ha : ∀ η, η.length = N → Has η L → Sm enc (a η) (.ok x)) (h : SimK N X Lb Ls ms ((i, enc x) :: L) t) : SimK N X Lb Ls (sAsg a (bName i) :: ms) L t := fun η hl hη => by
  have e : a η = .ok (enc x) := ha η hl hη
  have z := h (η.set i (some (enc x))) (by rw [List.length_set]; exact hl) (hη.set i (by omega))
  have e2 : runK (sAsg a (bName i) :: ms) η = runK ms (η.set i (some (enc x))) := by
    show (match sAsg a (bName i) η with | .nx η' => runK ms η' | r => r) = _
    have e3 : sAsg a (bName i) η = .nx (η.set i (some (enc x))) := by
      unfold sAsg
      rw [e]
      show (match bName i (enc x) η with | some η' => Fl.nx η' | none => .stuck) = _
      unfold bName
      rw [if_pos (by omega)]
    rw [e3]
  rw [e2]; exact z
theorem k_asgE {r : Res α} {k : α → TF β σ ρ} (hi : i < N) (hX : Sub L X) (ha : ∀ η, η.length = N → Has η L → Sm enc (a η) r) (h : ∀ x, SimK N X Lb Ls ms ((i, enc x) :: L) (k x)) : SimK N X Lb Ls (sAsg a (bName i) :: ms) L (onE r k) := fun η hl hη => by
  show Post N X Lb Ls (match onRes (a η) η (fun d => match bName i d η with | some η' => .nx η' | none => .stuck) with | .nx η' => runK ms η' | r => r) (onE r k)
  refine onB_post (ha η hl hη) hl (hX η hη) fun x => ?_
  have e3 : (match bName i (enc x) η with | some η' => Fl.nx η' | none => .stuck) = .nx (η.set i (some (enc x))) := by
    unfold bName
    rw [if_pos (by omega)]
  rw [e3]
  exact h x _ (by rw [List.length_set]; exact hl) (hη.set i (by omega))
theorem k_asgTP {x : α} {bd : Bd} {t : TF β σ ρ} (ha : ∀ η, η.length = N → Has η L → Sm enc (a η) (.ok x)) (hb : SimT N bd (enc x) L L1) (h : SimK N X Lb Ls ms L1 t) : SimK N X Lb Ls (sAsg a bd :: ms) L t := fun η hl hη => by
  have e : a η = .ok (enc x) := ha η hl hη
  obtain ⟨η1, e1, l1, a1⟩ := hb η hl hη
  have z := h η1 l1 a1
  have e2 : runK (sAsg a bd :: ms) η = runK ms η1 := by
    show (match sAsg a bd η with | .nx η' => runK ms η' | r => r) = _
    have e3 : sAsg a bd η = .nx η1 := by
      unfold sAsg
      rw [e]
      show (match bd (enc x) η with | some η' => Fl.nx η' | none => .stuck) = _
      rw [e1]
    rw [e3]
  rw [e2]; exact z
theorem k_asgTE {α : Type} {e : α → D} {r : Res α} {bd : Bd} {L1 : α → En} {k : α → TF β σ ρ} (hX : Sub L X) (ha : ∀ η, η.length = N → Has η L → Sm e (a η) r) (hb : ∀ x, SimT N bd (e x) L (L1 x)) (h : ∀ x, SimK N X Lb Ls ms (L1 x) (k x)) : SimK N X Lb Ls (sAsg a bd :: ms) L (onE r k) := fun η hl hη => by
  show Post N X Lb Ls (match onRes (a η) η (fun d => match bd d η with | some η' => .nx η' | none => .stuck) with | .nx η' => runK ms η' | r => r) (onE r k)
  refine onB_post (ha η hl hη) hl (hX η hη) fun x => ?_
  obtain ⟨η1, e1, l1, a1⟩ := hb x η hl hη
  rw [e1]
  exact h x _ l1 a1
/-- i, j = a, b -/
theorem k_par {γ δ : Type} [Enc γ] [Enc δ] {x : γ} {y : δ} {t : TF β σ ρ} (hi : i < N) (hj : j < N) (ha : ∀ η, η.length = N → Has η L → Sm enc (a η) (.ok x)) (hb : ∀ η, η.length = N → Has η L → Sm enc (b η) (.ok y)) (h : SimK N X Lb Ls ms ((j, enc y) :: (i, enc x) :: L) t) : SimK N X Lb Ls (sPar i j a b :: ms) L t := fun η hl hη => by
  have e1 : a η = .ok (enc x) := ha η hl hη
  have e2 : b η = .ok (enc y) := hb η hl hη
  have h1 := hη.set i (d := enc x) (by omega)
  have h2 := h1.set j (d := enc y) (by rw [List.length_set]; omega)
  have z := h _ (by rw [List.length_set, List.length_set]; exact hl) h2
  have e3 : sPar i j a b η = .nx ((η.set i (some (enc x))).set j (some (enc y))) := by
    rw [sPar_ap, e1, ev_bind, e2, ev_bind, ev_on, if_pos ⟨by omega, by omega⟩]
  have e4 : runK (sPar i j a b :: ms) η = runK ms ((η.set i (some (enc x))).set j (some (enc y))) := by
    show (match sPar i j a b η with | .nx η' => runK ms η' | r => r) = _
    rw [e3]
  rw [e4]; exact z
theorem k_parE {γ δ : Type} [Enc γ] [Enc δ] {r : Res (γ × δ)} {k : γ × δ → TF β σ ρ} (hi : i < N) (hj : j < N) (hX : Sub L X) (ha : ∀ η, η.length = N → Has η L → Sm (fun p : γ × δ => (enc p.1, enc p.2)) ((a η).bind fun x => (b η).bind fun y => .ok (x, y)) r) (h : ∀ p : γ × δ, SimK N X Lb Ls ms ((j, enc p.2) :: (i, enc p.1) :: L) (k p)) : SimK N X Lb Ls (sPar i j a b :: ms) L (onE r k) := fun η hl hη => by
  show Post N X Lb Ls (match sPar i j a b η with | .nx η' => runK ms η' | r => r) (onE r k)
  rw [sPar_ap]
  refine onB_post (ha η hl hη) hl (hX η hη) fun p => ?_
  have h1 := hη.set i (d := enc p.1) (by omega)
  have h2 := h1.set j (d := enc p.2) (by rw [List.length_set]; omega)
  rw [if_pos ⟨by omega, by omega⟩]
  exact h p _ (by rw [List.length_set, List.length_set]; exact hl) h2
theorem k_augP {γ : Type} [Enc γ] {f : D → D → Res D} {x : γ} {t : TF β σ ρ} (hi : i < N) (ha : ∀ η, η.length = N → Has η L → Sm enc (dOp2 f (dVar i) a η) (.ok x)) (h : SimK N X Lb Ls ms ((i, enc x) :: L) t) : SimK N X Lb Ls (sAug i f a :: ms) L t := fun η hl hη => by
  have e : dOp2 f (dVar i) a η = .ok (enc x) := ha η hl hη
  have z := h (η.set i (some (enc x))) (by rw [List.length_set]; exact hl) (hη.set i (by omega))
  have e3 : sAug i f a η = .nx (η.set i (some (enc x))) := by
    unfold sAug
    rw [e, ev_on, if_pos (by omega)]
  have e2 : runK (sAug i f a :: ms) η = runK ms (η.set i (some (enc x))) := by
    show (match sAug i f a η with | .nx η' => runK ms η' | r => r) = _
    rw [e3]
  rw [e2]; exact z
theorem k_augE {γ : Type} [Enc γ] {f : D → D → Res D} {r : Res γ} {k : γ → TF β σ ρ} (hi : i < N) (hX : Sub L X) (ha : ∀ η, η.length = N → Has η L → Sm enc (dOp2 f (dVar i) a η) r) (h : ∀ x, SimK N X Lb Ls ms ((i, enc x) :: L) (k x)) : SimK N X Lb Ls (sAug i f a :: ms) L (onE r k) := fun η hl hη => by
  show Post N X Lb Ls (match onRes (dOp2 f (dVar i) a η) η (fun d => if i < η.length then .nx (η.set i (some d)) else .stuck) with | .nx η' => runK ms η' | r => r) (onE r k)
  refine onB_post (ha η hl hη) hl (hX η hη) fun x => ?_
  rw [if_pos (by omega)]
  exact h x _ (by rw [List.length_set]; exact hl) (hη.set i (by omega))
theorem k_exprE {r : Res α} {k : α → TF β σ ρ} (hX : Sub L X) (ha : ∀ η, η.length = N → Has η L → Sm enc (a η) r) (h : ∀ x, SimK N X Lb Ls ms L (k x)) : SimK N X Lb Ls (sExpr a :: ms) L (onE r k) := fun η hl hη => by
  show Post N X Lb Ls (match onRes (a η) η (fun _ => .nx η) with | .nx η' => runK ms η' | r => r) (onE r k)
  exact onB_post (ha η hl hη) hl (hX η hη) fun x => h x η hl hη
theorem k_exprP {x : α} {t : TF β σ ρ} (ha : ∀ η, η.length = N → Has η L → Sm enc (a η) (.ok x)) (h : SimK N X Lb Ls ms L t) : SimK N X Lb Ls (sExpr a :: ms) L t := fun η hl hη => by
  show Post N X Lb Ls (match onRes (a η) η (fun _ => .nx η) with | .nx η' => runK ms η' | r => r) t
  have e : a η = .ok (enc x) := ha η hl hη
  rw [e]
  exact h η hl hη
theorem k_retP {x : ρ} (ha : ∀ η, η.length = N → Has η L → Sm enc (a η) (.ok x)) : SimK N X Lb Ls (sRet a :: ms) L (.rt x : TF β σ ρ) := fun η hl hη => by
  show Post N X Lb Ls (match onRes (a η) η (fun d => .rt d) with | .nx η' => runK ms η' | r => r) (.rt x)
  have e : a η = .ok (enc x) := ha η hl hη
  rw [e]
  rfl
theorem k_retE {r : Res ρ} (hX : Sub L X) (ha : ∀ η, η.length = N → Has η L → Sm enc (a η) r) : SimK N X Lb Ls (sRet a :: ms) L (onE r TF.rt : TF β σ ρ) := fun η hl hη => by
  show Post N X Lb Ls (match onRes (a η) η (fun d => .rt d) with | .nx η' => runK ms η' | r => r) (onE r TF.rt)
  exact onB_post (ha η hl hη) hl (hX η hη) fun x => rfl
theorem k_retN {u : ρ} (hu : enc u = D.non) : SimK N X Lb Ls (sRetN :: ms) L (.rt u : TF β σ ρ) := fun η hl hη => by
  show (Fl.rt .non) = .rt (enc u)
  rw [hu]
theorem k_raise (e : Er) (hX : Sub L X) : SimK N X Lb Ls (sRaise e :: ms) L (.ex e : TF β σ ρ) := fun η hl hη => ⟨η, rfl, hl, hX η hη⟩
theorem k_brk {s : β} (h : Sub L (Lb s)) : SimK N X Lb Ls (sBreak :: ms) L (.bk s : TF β σ ρ) := fun η hl hη => ⟨η, rfl, hl, h η hη⟩
theorem k_cont {s : β} (h : Sub L (Lb s)) : SimK N X Lb Ls (sCont :: ms) L (.ct s : TF β σ ρ) := fun η hl hη => ⟨η, rfl, hl, h η hη⟩
theorem k_ifP {c : Bool} {t1 t2 : TF β σ ρ} (hq : ∀ η, η.length = N → Has η L → Sm id (q η) (.ok c)) (h1 : SimK N X Lb Ls (m1 :: ms) L t1) (h2 : SimK N X Lb Ls (m2 :: ms) L t2) : SimK N X Lb Ls (sIf q m1 m2 :: ms) L (if c then t1 else t2) := fun η hl hη => by
  show Post N X Lb Ls (match onRes (q η) η (fun k => if k then m1 η else m2 η) with | .nx η' => runK ms η' | r => r) _
  have e : q η = .ok c := hq η hl hη
  rw [e]
  cases c with
  | true => exact h1 η hl hη
  | false => exact h2 η hl hη
theorem k_ifE {r : Res Bool} {t1 t2 : TF β σ ρ} (hX : Sub L X) (hq : ∀ η, η.length = N → Has η L → Sm id (q η) r) (h1 : SimK N X Lb Ls (m1 :: ms) L t1) (h2 : SimK N X Lb Ls (m2 :: ms) L t2) : SimK N X Lb Ls (sIf q m1 m2 :: ms) L (onE r fun c => if c then t1 else t2) := fun η hl hη => by
  show Post N X Lb Ls (match onRes (q η) η (fun k => if k then m1 η else m2 η) with | .nx η' => runK ms η' | r => r) _
  refine onB_post (hq η hl hη) hl (hX η hη) fun c => ?_
  cases c with
  | true => exact h1 η hl hη
  | false => exact h2 η hl hη
theorem k_weak {t : TF β σ ρ} (h : Sub L L1) (k : SimK N X Lb Ls ms L1 t) : SimK N X Lb Ls ms L t := fun η hl hη => k η hl (h η hη)
/-- two ways come together -/
theorem k_join {Lm : τ → En} {t : TF β τ ρ} {k : τ → TF β σ ρ} (h1 : SimK N X Lb Lm [m] L t) (h2 : ∀ s, SimK N X Lb Ls ms (Lm s) (k s)) : SimK N X Lb Ls (m :: ms) L (t.bind k) := fun η hl hη => by
  have z := h1 η hl hη
  show Post N X Lb Ls (match m η with | .nx η' => runK ms η' | r => r) _
  have z' : Post N X Lb Lm (match m η with | .nx η' => Fl.nx η' | r => r) t := z
  cases t with
  | nx s =>
    obtain ⟨η1, e, l1, a1⟩ := z'
    cases hm : m η <;> rw [hm] at e <;> cases e
    exact h2 s _ l1 a1
  | rt r =>
    have e : (match m η with | .nx η' => Fl.nx η' | r => r) = .rt (enc r) := z'
    cases hm : m η <;> rw [hm] at e <;> cases e
    exact rfl
  | bk b =>
    obtain ⟨η1, e, l1, a1⟩ := z'
    cases hm : m η <;> rw [hm] at e <;> cases e
    exact ⟨_, rfl, l1, a1⟩
  | ct b =>
    obtain ⟨η1, e, l1, a1⟩ := z'
    cases hm : m η <;> rw [hm] at e <;> cases e
    exact ⟨_, rfl, l1, a1⟩
  | ex er =>
    obtain ⟨η1, e, l1, a1⟩ := z'
    cases hm : m η <;> rw [hm] at e <;> cases e
    exact ⟨_, rfl, l1, a1⟩
  | stuck => exact trivial
/-! loops -/
theorem fl_eta {fl : Fl} : (match fl with | .nx η' => Fl.nx η' | r => r) = fl := by cases fl <;> rfl
theorem for_sim {Lh : σ → En} {t : Bd} {body : Env → Fl} {f : α → σ → TF σ σ ρ} {L1 : α → σ → En} (ht : ∀ x s, SimT N t (enc x) (Lh s) (L1 x s)) (hb : ∀ x s, SimK N X Lh Lh [body] (L1 x s) (f x s)) : ∀ (xs : List α) (s : σ) (η : Env), η.length = N → Has η (Lh s) → Post N X Lb Lh (forGo t body (xs.map enc) η) (tFor xs s f : TF β σ ρ)
  | [], s, η, hl, hη => ⟨η, rfl, hl, hη⟩
  | x :: xs, s, η, hl, hη => by
    obtain ⟨η1, e1, l1, a1⟩ := ht x s η hl hη
    have z := hb x s η1 l1 a1
    have z' : Post N X Lh Lh (match body η1 with | .nx η' => Fl.nx η' | r => r) (f x s) := z
    rw [List.map_cons, ev_forC, e1]
    show Post N X Lb Lh (match body η1 with | .nx η' => forGo t body (xs.map enc) η' | .ct η' => forGo t body (xs.map enc) η' | .bk η' => .nx η' | r => r) (match f x s with | .nx s' => tFor xs s' f | .ct s' => tFor xs s' f | .bk s' => .nx s' | .rt r => .rt r | .ex e => .ex e | .stuck => .stuck)
    cases hf : f x s with
    | nx s' =>
      rw [hf] at z'
      obtain ⟨η2, e, l2, a2⟩ := z'
      cases hm : body η1 <;> rw [hm] at e <;> cases e
      exact for_sim ht hb xs s' _ l2 a2
    | rt r =>
      rw [hf] at z'
      have e : (match body η1 with | .nx η' => Fl.nx η' | r => r) = .rt (enc r) := z'
      cases hm : body η1 <;> rw [hm] at e <;> cases e
      exact rfl
    | bk b =>
      rw [hf] at z'
      obtain ⟨η2, e, l2, a2⟩ := z'
      cases hm : body η1 <;> rw [hm] at e <;> cases e
      exact ⟨_, rfl, l2, a2⟩
    | ct b =>
      rw [hf] at z'
      obtain ⟨η2, e, l2, a2⟩ := z'
      cases hm : body η1 <;> rw [hm] at e <;> cases e
      exact for_sim ht hb xs b _ l2 a2
    | ex er =>
      rw [hf] at z'
      obtain ⟨η2, e, l2, a2⟩ := z'
      cases hm : body η1 <;> rw [hm] at e <;> cases e
      exact ⟨_, rfl, l2, a2⟩
    | stuck => exact trivial
theorem k_for {it : M (List D)} {t : Bd} {body : Env → Fl} {ri : Res (List α)} (Lh : σ → En) {f : α → σ → TF σ σ ρ} {L1 : α → σ → En} {s0 : σ} {Ls : τ → En} {k : σ → TF β τ ρ} (hX : Sub L X) (hi : ∀ η, η.length = N → Has η L → Sm (List.map enc) (it η) ri) (h0 : Sub L (Lh s0)) (ht : ∀ x s, SimT N t (enc x) (Lh s) (L1 x s)) (hb : ∀ x s, SimK N X Lh Lh [body] (L1 x s) (f x s)) (hk : ∀ s, SimK N X Lb Ls ms (Lh s) (k s)) :
    SimK N X Lb Ls (sFor it t body :: ms) L (onE ri fun xs => (tFor xs s0 f).bind k) := fun η hl hη => by
  show Post N X Lb Ls (match onRes (it η) η (fun xs => forGo t body xs η) with | .nx η' => runK ms η' | r => r) _
  refine onB_post (hi η hl hη) hl (hX η hη) fun xs => ?_
  have z := k_join (N := N) (X := X) (Lb := Lb) (Lm := Lh) (Ls := Ls) (m := fun η => forGo t body (xs.map enc) η) (ms := ms) (L := Lh s0) (t := tFor xs s0 f) (k := k) (fun η hl hη => by
    have y := for_sim (Lb := Lb) ht hb xs s0 η hl hη
    show Post N X Lb Lh (match forGo t body (xs.map enc) η with | .nx η' => Fl.nx η' | r => r) _
    rw [fl_eta]; exact y) hk
  exact z η hl (h0 η hη)
theorem k_forP {it : M (List D)} {t : Bd} {body : Env → Fl} {xs : List α} (Lh : σ → En) {f : α → σ → TF σ σ ρ} {L1 : α → σ → En} {s0 : σ} {Ls : τ → En} {k : σ → TF β τ ρ} (hi : ∀ η, η.length = N → Has η L → Sm (List.map enc) (it η) (.ok xs)) (h0 : Sub L (Lh s0)) (ht : ∀ x s, SimT N t (enc x) (Lh s) (L1 x s)) (hb : ∀ x s, SimK N X Lh Lh [body] (L1 x s) (f x s)) (hk : ∀ s, SimK N X Lb Ls ms (Lh s) (k s)) :
    SimK N X Lb Ls (sFor it t body :: ms) L ((tFor xs s0 f).bind k) := fun η hl hη => by
  show Post N X Lb Ls (match onRes (it η) η (fun xs => forGo t body xs η) with | .nx η' => runK ms η' | r => r) _
  have e : it η = .ok (xs.map enc) := hi η hl hη
  rw [e]
  have z := k_join (N := N) (X := X) (Lb := Lb) (Lm := Lh) (Ls := Ls) (m := fun η => forGo t body (xs.map enc) η) (ms := ms) (L := Lh s0) (t := tFor xs s0 f) (k := k) (fun η hl hη => by
    have y := for_sim (Lb := Lb) ht hb xs s0 η hl hη
    show Post N X Lb Lh (match forGo t body (xs.map enc) η with | .nx η' => Fl.nx η' | r => r) _
    rw [fl_eta]; exact y) hk
  exact z η hl (h0 η hη)
end
section
variable {α β σ τ ρ : Type} [Enc ρ] {N : Nat} {X L L1 : En} {Lb : β → En} {m m1 m2 : Env → Fl} {ms : List (Env → Fl)} {q : M Bool}
theorem while_sim {Lh : σ → En} {body : Env → Fl} {tq : σ → Res Bool} {f : σ → TF σ σ ρ} (hX : ∀ s, Sub (Lh s) X) (hq : ∀ s η, η.length = N → Has η (Lh s) → Sm id (q η) (tq s)) (hb : ∀ s, SimK N X Lh Lh [body] (Lh s) (f s)) : ∀ (n : Nat) (s : σ) (η : Env), η.length = N → Has η (Lh s) → Post N X Lb Lh (whileGo q body n η) (tWhileN tq f n s : TF β σ ρ)
  | 0, s, η, hl, hη => trivial
  | n + 1, s, η, hl, hη => by
    have w := hq s η hl hη
    show Post N X Lb Lh (onRes (q η) η fun k => if k then (match body η with | .nx η' => whileGo q body n η' | .ct η' => whileGo q body n η' | .bk η' => .nx η' | r => r) else .nx η) (onE (tq s) fun c => if c then (match f s with | .nx s' => tWhileN tq f n s' | .ct s' => tWhileN tq f n s' | .bk s' => .nx s' | .rt r => .rt r | .ex e => .ex e | .stuck => .stuck) else .nx s)
    cases hc : tq s with
    | exc er =>
      rw [hc] at w
      have w' : q η = .exc er := w
      rw [w']
      exact ⟨η, rfl, hl, hX s η hη⟩
    | stuck => exact trivial
    | ok c =>
      rw [hc] at w
      have w' : q η = .ok c := w
      rw [w']
      cases c with
      | false => exact ⟨η, rfl, hl, hη⟩
      | true =>
        show Post N X Lb Lh (match body η with | .nx η' => whileGo q body n η' | .ct η' => whileGo q body n η' | .bk η' => .nx η' | r => r) (match f s with | .nx s' => tWhileN tq f n s' | .ct s' => tWhileN tq f n s' | .bk s' => .nx s' | .rt r => .rt r | .ex e => .ex e | .stuck => .stuck)
        have z' : Post N X Lh Lh (match body η with | .nx η' => Fl.nx η' | r => r) (f s) := hb s η hl hη
        cases hf : f s with
        | nx s' =>
          rw [hf] at z'
          obtain ⟨η2, e, l2, a2⟩ := z'
          cases hm : body η <;> rw [hm] at e <;> cases e
          exact while_sim hX hq hb n s' _ l2 a2
        | rt r =>
          rw [hf] at z'
          have e : (match body η with | .nx η' => Fl.nx η' | r => r) = .rt (enc r) := z'
          cases hm : body η <;> rw [hm] at e <;> cases e
          exact rfl
        | bk b =>
          rw [hf] at z'
          obtain ⟨η2, e, l2, a2⟩ := z'
          cases hm : body η <;> rw [hm] at e <;> cases e
          exact ⟨_, rfl, l2, a2⟩
        | ct b =>
          rw [hf] at z'
          obtain ⟨η2, e, l2, a2⟩ := z'
          cases hm : body η <;> rw [hm] at e <;> cases e
          exact while_sim hX hq hb n b _ l2 a2
        | ex er =>
          rw [hf] at z'
          obtain ⟨η2, e, l2, a2⟩ := z'
          cases hm : body η <;> rw [hm] at e <;> cases e
          exact ⟨_, rfl, l2, a2⟩
        | stuck => exact trivial
theorem tWhile_eq {tq : σ → Res Bool} {f : σ → TF σ σ ρ} {s : σ} (h : (tWhile tq s f : TF β σ ρ) ≠ .stuck) : ∃ n, (tWhile tq s f : TF β σ ρ) = tWhileN tq f n s := by
  by_cases ex : ∃ n, tWhileN (β := β) tq f n s ≠ .stuck
  · exact ⟨_, by unfold tWhile; rw [dif_pos ex]⟩
  · exfalso
    apply h
    unfold tWhile
    rw [dif_neg ex]
theorem post_ns {Ls : σ → En} {fl : Fl} {t : TF β σ ρ} (h : Post N X Lb Ls fl t) (ht : t ≠ .stuck) : fl ≠ .stuck := by
  intro e
  subst e
  cases t with
  | nx s => obtain ⟨η, e, _⟩ := h; cases e
  | rt r => have e : Fl.stuck = .rt (enc r) := h; cases e
  | bk s => obtain ⟨η, e, _⟩ := h; cases e
  | ct s => obtain ⟨η, e, _⟩ := h; cases e
  | ex s => obtain ⟨η, e, _⟩ := h; cases e
  | stuck => exact ht rfl
theorem k_while {body : Env → Fl} (Lh : σ → En) {tq : σ → Res Bool} {f : σ → TF σ σ ρ} {s0 : σ} {Ls : τ → En} {k : σ → TF β τ ρ} (hX : ∀ s, Sub (Lh s) X) (h0 : Sub L (Lh s0)) (hq : ∀ s η, η.length = N → Has η (Lh s) → Sm id (q η) (tq s)) (hb : ∀ s, SimK N X Lh Lh [body] (Lh s) (f s)) (hk : ∀ s, SimK N X Lb Ls ms (Lh s) (k s)) :
    SimK N X Lb Ls (sWhile q body :: ms) L ((tWhile tq s0 f).bind k) := fun η hl hη => by
  have z := k_join (N := N) (X := X) (Lb := Lb) (Lm := Lh) (Ls := Ls) (m := sWhile q body) (ms := ms) (L := Lh s0) (t := tWhile tq s0 f) (k := k) (fun η hl hη => by
    by_cases hs : (tWhile tq s0 f : TF β σ ρ) = .stuck
    · rw [hs]; exact trivial
    · obtain ⟨n, e⟩ := tWhile_eq hs
      have y := while_sim (Lb := Lb) hX hq hb n s0 η hl hη
      rw [e] at hs ⊢
      have e2 := sWhile_eq n (post_ns y hs)
      show Post N X Lb Lh (match sWhile q body η with | .nx η' => Fl.nx η' | r => r) _
      rw [e2, fl_eta]; exact y) hk
  exact z η hl (h0 η hη)
theorem tWhileN_mono {tq : σ → Res Bool} {f : σ → TF σ σ ρ} : ∀ (n k : Nat) (s : σ), n ≤ k → tWhileN (β := β) tq f n s ≠ .stuck → tWhileN (β := β) tq f k s = tWhileN tq f n s
  | 0, _, _, _, h => absurd rfl h
  | n + 1, 0, _, hk, _ => absurd hk (by omega)
  | n + 1, k + 1, s, hk, h => by
    unfold tWhileN at h ⊢
    cases hq : tq s with
    | ok b =>
      rw [hq] at h
      cases b with
      | false => rfl
      | true =>
        have h' : (match f s with | .nx s' => tWhileN (β := β) tq f n s' | .ct s' => tWhileN tq f n s' | .bk s' => .nx s' | .rt r => .rt r | .ex e => .ex e | .stuck => .stuck) ≠ .stuck := h
        show (match f s with | .nx s' => tWhileN (β := β) tq f k s' | .ct s' => tWhileN tq f k s' | .bk s' => .nx s' | .rt r => .rt r | .ex e => .ex e | .stuck => .stuck) = (match f s with | .nx s' => tWhileN tq f n s' | .ct s' => tWhileN tq f n s' | .bk s' => .nx s' | .rt r => .rt r | .ex e => .ex e | .stuck => .stuck)
        cases e : f s with
        | nx s' => rw [e] at h'; exact tWhileN_mono n k s' (by omega) h'
        | ct s' => rw [e] at h'; exact tWhileN_mono n k s' (by omega) h'
        | bk s' => rfl
        | rt d => rfl
        | ex er => rfl
        | stuck => rfl
    | exc er => rfl
    | stuck => rfl
theorem tWhile_of {tq : σ → Res Bool} {f : σ → TF σ σ ρ} {s : σ} (n : Nat) {r : TF β σ ρ} (h : tWhileN tq f n s = r) (hr : r ≠ .stuck) : tWhile tq s f = r := by
  have h2 : tWhileN (β := β) tq f n s ≠ .stuck := by rw [h]; exact hr
  have ex : ∃ n, tWhileN (β := β) tq f n s ≠ .stuck := ⟨n, h2⟩
  unfold tWhile
  rw [dif_pos ex]
  have h3 := Classical.choose_spec ex
  rcases Nat.le_total n (Classical.choose ex) with hl | hl
  · rw [tWhileN_mono n _ s hl h2, h]
  · rw [← h, tWhileN_mono _ n s hl h3]
end
/-! try -/
section
variable {β σ τ ρ : Type} [Enc ρ] {N : Nat} {X L Lx : En} {Lb : β → En} {m : Env → Fl} {ms : List (Env → Fl)}
theorem noEx_post {Lm : τ → En} {fl : Fl} {t : TF β τ ρ} (p : Post N Lx Lb Lm fl t) : Post N X Lb Lm (noEx fl) (match t with | .ex _ => .stuck | r => r) := by
  cases t with
  | nx s => obtain ⟨η1, rfl, l1, a1⟩ := p; exact ⟨η1, rfl, l1, a1⟩
  | rt r =>
    have e : fl = .rt (enc r) := p
    subst e
    exact rfl
  | bk b => obtain ⟨η1, rfl, l1, a1⟩ := p; exact ⟨η1, rfl, l1, a1⟩
  | ct b => obtain ⟨η1, rfl, l1, a1⟩ := p; exact ⟨η1, rfl, l1, a1⟩
  | ex e => exact trivial
  | stuck => exact trivial
theorem goneFl_post {Lm : τ → En} {fl : Fl} {t : TF β τ ρ} {i : Nat} (hm : ∀ s, lk (Lm s) i = none) (hlb : ∀ s, lk (Lb s) i = none) (p : Post N Lx Lb Lm fl t) : Post N X Lb Lm (goneFl i fl) (match t with | .ex _ => .stuck | r => r) := by
  cases t with
  | nx s => obtain ⟨η1, rfl, l1, a1⟩ := p; exact ⟨η1.set i none, rfl, by rw [List.length_set]; exact l1, a1.none i (hm s)⟩
  | rt r =>
    have e : fl = .rt (enc r) := p
    subst e
    exact rfl
  | bk b => obtain ⟨η1, rfl, l1, a1⟩ := p; exact ⟨η1.set i none, rfl, by rw [List.length_set]; exact l1, a1.none i (hlb b)⟩
  | ct b => obtain ⟨η1, rfl, l1, a1⟩ := p; exact ⟨η1.set i none, rfl, by rw [List.length_set]; exact l1, a1.none i (hlb b)⟩
  | ex e => exact trivial
  | stuck => exact trivial
theorem try_post {Lm : τ → En} {th : Er → TF β τ ρ} {c : Er} {fl : Fl} {t : TF β τ ρ} {F : Fl → Fl} (z : Post N Lx Lb Lm fl t) (hX : Sub Lx X)
    (h1 : ∀ fl, (∀ e η, fl ≠ .ex e η) → F fl = fl)
    (h2 : ∀ e η', η'.length = N → Has η' Lx → e.own = true → e.sub c = true → Post N X Lb Lm (F (.ex e η')) (match th e with | .ex _ => .stuck | r => r))
    (h3 : ∀ e η', η'.length = N → e.own = true → e.sub c = false → F (.ex e η') = .ex e η') : Post N X Lb Lm (F fl) (tTry t c th) := by
  cases t with
  | nx s =>
    obtain ⟨η1, rfl, l1, a1⟩ := z
    rw [h1 _ (fun e η q => by cases q)]
    exact ⟨η1, rfl, l1, a1⟩
  | rt r =>
    have e : fl = .rt (enc r) := z
    subst e
    rw [h1 _ (fun e η q => by cases q)]
    exact rfl
  | bk b =>
    obtain ⟨η1, rfl, l1, a1⟩ := z
    rw [h1 _ (fun e η q => by cases q)]
    exact ⟨η1, rfl, l1, a1⟩
  | ct b =>
    obtain ⟨η1, rfl, l1, a1⟩ := z
    rw [h1 _ (fun e η q => by cases q)]
    exact ⟨η1, rfl, l1, a1⟩
  | stuck => exact trivial
  | ex e =>
    obtain ⟨η1, rfl, l1, a1⟩ := z
    show Post N X Lb Lm (F (.ex e η1)) (if e.own then (if e.sub c then (match th e with | .ex _ => .stuck | r => r) else .ex e) else .stuck)
    cases ho : e.own with
    | false => exact trivial
    | true =>
      rw [if_pos rfl]
      cases hs : e.sub c with
      | true =>
        rw [if_pos rfl]
        exact h2 e η1 l1 a1 ho hs
      | false =>
        rw [if_neg Bool.false_ne_true, h3 e η1 l1 ho hs]
        exact ⟨η1, rfl, l1, hX η1 a1⟩
theorem tryO_sim {Lm : τ → En} {body : Env → Fl} {hd : Env → Fl} {c : Er} {t : TF β τ ρ} {th : Er → TF β τ ρ} (hX : Sub Lx X) (hb : SimK N Lx Lb Lm [body] L t) (hh : ∀ e, SimK N Lx Lb Lm [hd] Lx (th e)) : SimK N X Lb Lm [sTryOnly body c hd] L (tTry t c th) := fun η hl hη => by
  have z : Post N Lx Lb Lm (match body η with | .nx η' => Fl.nx η' | r => r) t := hb η hl hη
  rw [fl_eta] at z
  show Post N X Lb Lm (match sTryOnly body c hd η with | .nx η' => Fl.nx η' | r => r) _
  rw [fl_eta]
  refine try_post (F := fun fl => match fl with | .ex e η' => if e.own then (if e.sub c then noEx (hd η') else .ex e η') else .stuck | r => r) z hX (fun fl h => ?_) (fun e η' l1 a1 ho hs => ?_) (fun e η' l1 ho hs => ?_)
  · cases fl <;> first | rfl | exact absurd rfl (h _ _)
  · have y : Post N Lx Lb Lm (match hd η' with | .nx η' => Fl.nx η' | r => r) (th e) := hh e η' l1 a1
    rw [fl_eta] at y
    show Post N X Lb Lm (if e.own then (if e.sub c then noEx (hd η') else .ex e η') else .stuck) _
    rw [ho, hs]
    exact noEx_post y
  · show (if e.own then (if e.sub c then noEx (hd η') else .ex e η') else .stuck) = _
    rw [ho, hs]
    rfl
theorem tryA_sim {Lm : τ → En} {body : Env → Fl} {hd : Er → Env → Fl} {c : Er} {i : Nat} {t : TF β τ ρ} {th : Er → TF β τ ρ} (hi : i < N) (hX : Sub Lx X) (hxi : lk Lx i = none) (hm : ∀ s, lk (Lm s) i = none) (hlb : ∀ s, lk (Lb s) i = none) (hb : SimK N Lx Lb Lm [body] L t) (hh : ∀ e, SimK N Lx Lb Lm [hd e] Lx (th e)) : SimK N X Lb Lm [sTryAs body c i hd] L (tTry t c th) := fun η hl hη => by
  have z : Post N Lx Lb Lm (match body η with | .nx η' => Fl.nx η' | r => r) t := hb η hl hη
  rw [fl_eta] at z
  show Post N X Lb Lm (match sTryAs body c i hd η with | .nx η' => Fl.nx η' | r => r) _
  rw [fl_eta]
  refine try_post (F := fun fl => match fl with | .ex e η' => if e.own = true ∧ i < η'.length then (if e.sub c then goneFl i (hd e (η'.set i none)) else .ex e η') else .stuck | r => r) z hX (fun fl h => ?_) (fun e η' l1 a1 ho hs => ?_) (fun e η' l1 ho hs => ?_)
  · cases fl <;> first | rfl | exact absurd rfl (h _ _)
  · have y : Post N Lx Lb Lm (match hd e (η'.set i none) with | .nx η' => Fl.nx η' | r => r) (th e) := hh e (η'.set i none) (by rw [List.length_set]; exact l1) (a1.none i hxi)
    rw [fl_eta] at y
    show Post N X Lb Lm (if e.own = true ∧ i < η'.length then (if e.sub c then goneFl i (hd e (η'.set i none)) else .ex e η') else .stuck) _
    rw [if_pos ⟨ho, by omega⟩, hs]
    exact goneFl_post hm hlb y
  · show (if e.own = true ∧ i < η'.length then (if e.sub c then goneFl i (hd e (η'.set i none)) else .ex e η') else .stuck) = _
    rw [if_pos ⟨ho, by omega⟩, hs]
    rfl
end
/-! defs -/
section
variable {ρ : Type} [Enc ρ] {n m : Nat} {body : Env → Fl} {ds : List D}
theorem fn_sim {t : TF Unit Unit ρ} (hn : ds.length = n) (hm : n ≤ m) (h : SimK m [] (fun _ => []) (fun _ => []) [body] (idx 0 ds) t) : Sm enc (mkFn n m body ds) (tRun t) := by
  have z : Post m [] (fun _ => []) (fun _ => []) (match body (ds.map some ++ List.replicate (m - n) none) with | .nx η' => Fl.nx η' | r => r) t := h _ (by simp; omega) Has.init
  rw [fl_eta] at z
  rw [mk_fn hn]
  cases t with
  | rt r =>
    have e : body (ds.map some ++ List.replicate (m - n) none) = .rt (enc r) := z
    rw [e]; exact rfl
  | ex e =>
    obtain ⟨η, e, _⟩ := z
    rw [e]; exact rfl
  | nx s => exact trivial
  | bk s => exact trivial
  | ct s => exact trivial
  | stuck => exact trivial
theorem fn_simF {t : TF Unit Unit ρ} {r0 : ρ} (h0 : enc r0 = D.non) (hn : ds.length = n) (hm : n ≤ m) (h : SimK m [] (fun _ => []) (fun _ => []) [body] (idx 0 ds) t) : Sm enc (mkFn n m body ds) (tRunF r0 t) := by
  have z : Post m [] (fun _ => []) (fun _ => []) (match body (ds.map some ++ List.replicate (m - n) none) with | .nx η' => Fl.nx η' | r => r) t := h _ (by simp; omega) Has.init
  rw [fl_eta] at z
  rw [mk_fn hn]
  cases t with
  | rt r =>
    have e : body (ds.map some ++ List.replicate (m - n) none) = .rt (enc r) := z
    rw [e]; exact rfl
  | ex e =>
    obtain ⟨η, e, _⟩ := z
    rw [e]; exact rfl
  | nx s =>
    obtain ⟨η, e, _⟩ := z
    rw [e]
    show Res.ok D.non = .ok (enc r0)
    rw [h0]
  | bk s => exact trivial
  | ct s => exact trivial
  | stuck => exact trivial
end
end VT
/-! VTExpr: typed operators, expressions, what is walked, comprehensions. -/
namespace VT
open PySem hiding Env
open VL Enc
/-! ### typed operators -/
@[irreducible] def imul (x y : Int) : Res Int := if mulOk x y then .ok (x * y) else .stuck
@[irreducible] def idiv (x y : Int) : Res Int := if divOk x y then .ok (x / y) else .stuck
@[irreducible] def imod (x y : Int) : Res Int := if 0 < y then .ok (x % y) else .stuck
@[irreducible] def ipow (x y : Int) : Res Int := if powOk x y then .ok (x ^ y.toNat) else .stuck
@[irreducible] def ishl (x y : Int) : Res Int := if shlOk x y then .ok (x * 2 ^ y.toNat) else .stuck
@[irreducible] def ishr (x y : Int) : Res Int := if 0 ≤ y then .ok (x / 2 ^ y.toNat) else .stuck
def iabs (x : Int) : Int := if x < 0 then -x else x
def imax2 (x y : Int) : Int := if y > x then y else x
def imin2 (x y : Int) : Int := if y < x then y else x
def b2i (b : Bool) : Int := if b then 1 else 0
@[irreducible] def lcat {α : Type} (xs ys : List α) : Res (List α) := if xs.length + ys.length ≤ line then .ok (xs ++ ys) else .stuck
@[irreducible] def lrep {α : Type} (xs : List α) (k : Int) : Res (List α) := if k < 16777217 ∧ -16777217 < k ∧ xs.length * k.toNat ≤ line then .ok (List.replicate k.toNat xs).flatten else .stuck
@[irreducible] def lapp {α : Type} (xs : List α) (x : α) : Res (List α) := if xs.length < line then .ok (xs ++ [x]) else .stuck
def atL {α : Type} (xs : List α) (i : Int) : Option α := (ixOf xs.length i).bind fun j => xs[j]?
@[irreducible] def ix {α : Type} (xs : List α) (i : Int) : Res α := match atL xs i with
  | some x => .ok x
  | none => .stuck
@[irreducible] def setI {α : Type} (xs : List α) (i : Int) (x : α) : Res (List α) := match ixOf xs.length i with
  | some j => .ok (xs.set j x)
  | none => .stuck
def cutL {α : Type} (xs : List α) (lo hi : Option Int) : List α := (xs.drop (slIx xs.length 0 lo)).take (slIx xs.length xs.length hi - slIx xs.length 0 lo)
def ilen {α : Type} (xs : List α) : Int := (xs.length : Int)
@[irreducible] def imaxL (xs : List Int) : Res Int := match xs with
  | a :: r => .ok (maxL (a :: r))
  | [] => .stuck
@[irreducible] def iminL (xs : List Int) : Res Int := match xs with
  | a :: r => .ok (minL (a :: r))
  | [] => .stuck
def rng (lo : Int) (n : Nat) : List Int := (List.range n).map fun (k : Nat) => lo + (k : Int)
def rngC (lo c : Int) (n : Nat) : List Int := (List.range n).map fun (k : Nat) => lo + (k : Int) * c
@[irreducible] def irange (j : Int) : Res (List Int) := if -lim62 ≤ j ∧ j < lim62 then .ok (rng 0 j.toNat) else .stuck
@[irreducible] def irange2 (i j : Int) : Res (List Int) := if (-lim62 ≤ i ∧ i < lim62) ∧ (-lim62 ≤ j ∧ j < lim62) then .ok (rng i (j - i).toNat) else .stuck
@[irreducible] def irange3 (i j k : Int) : Res (List Int) := if rgOk i j k then .ok (rngC i k (Builtin.Range.rangeSize i j k).toNat) else .stuck
def enumL {α : Type} : Nat → List α → List (Int × α)
  | _, [] => []
  | k, x :: xs => ((k : Int), x) :: enumL (k + 1) xs
def tFM {α γ : Type} (q : α → Res Bool) (f : α → Res γ) : List α → Res (List γ)
  | [] => .ok []
  | x :: xs => match q x with
    | .ok true => (match f x with
      | .ok y => (match tFM q f xs with
        | .ok ys => .ok (y :: ys)
        | _ => .stuck)
      | _ => .stuck)
    | .ok false => tFM q f xs
    | _ => .stuck
@[irreducible] def capL {α γ : Type} (xs : List α) (r : Res (List γ)) : Res (List γ) := if xs.length ≤ line then r else .stuck
/-- [g x for x in xs] -/
@[irreducible] def cmap {α γ : Type} (g : α → γ) (xs : List α) : Res (List γ) := capL xs (.ok (xs.map g))
@[irreducible] def cmapE {α γ : Type} (f : α → Res γ) (xs : List α) : Res (List γ) := capL xs (tFM (fun _ => .ok true) f xs)
/-- [g x for x in xs if p x] -/
@[irreducible] def cfm {α γ : Type} (p : α → Bool) (g : α → γ) (xs : List α) : Res (List γ) := capL xs (.ok ((xs.filter p).map g))
@[irreducible] def cfmE {α γ : Type} (q : α → Res Bool) (f : α → Res γ) (xs : List α) : Res (List γ) := capL xs (tFM q f xs)
def rand (a b : Res Bool) : Res Bool := a.bind fun c => if c then b else .ok false
def ror (a b : Res Bool) : Res Bool := a.bind fun c => if c then .ok true else b
/-! ### expressions -/
section
variable {α β γ δ ε : Type} {e : α → δ} {d : Res δ} {t : Res α} {η : Env} {L : En} {a b c : M D} {qa qb : M Bool} {mas mbs : M (List D)} {f g : D → D → Res D} {own : List Nat}
theorem u_op1 {f : D → Res D} {e : α → D} (h : Sm e ((a η).bind f) t) : Sm e (dOp1 f a η) t := h
theorem u_op2 {e : α → D} (h : Sm e ((a η).bind fun x => (b η).bind fun y => f x y) t) : Sm e (dOp2 f a b η) t := h
theorem u_callK {f : List D → List D → Res D} {e : α → D} (h : Sm e ((mas η).bind fun xs => (mbs η).bind fun ys => f xs ys) t) : Sm e (dCallK f mas mbs η) t := h
theorem u_call {f : List D → Res D} {e : α → D} (h : Sm e ((mas η).bind f) t) : Sm e (dCall f mas η) t := h
theorem u_chain' {e : α → D} (h : Sm e ((a η).bind fun x => (b η).bind fun y => (f x y).bind fun r => (toB r).bind fun k => if k then (c η).bind fun z => g y z else .ok (.bl false)) t) : Sm e (dChain f g a b c η) t := h
theorem e_var {β : Type} [Enc β] {x : β} (h : Has η L) (i : Nat) (e : lk L i = some (enc x)) : Sm enc (dVar i η) (.ok x) := h.var i e
theorem chain_in {d : Res D} {m : D → Res D} {r1 r2 : Res Bool} (h1 : Sm enc d r1) (h2 : Sm enc ((c η).bind m) r2) : Sm enc (d.bind fun r => (toB r).bind fun k => if k then (c η).bind m else .ok (.bl false)) (rand r1 r2) := by
  unfold rand
  refine bE h1 fun k => ?_
  show Sm enc ((toB (.bl k)).bind fun k => if k then (c η).bind m else .ok (.bl false)) (if k then r2 else .ok false)
  cases k with
  | true => exact h2
  | false => exact rfl
theorem chain_inP {d : Res D} {m : D → Res D} {c1 c2 : Bool} (h1 : Sm enc d (.ok c1)) (h2 : Sm enc ((c η).bind m) (.ok c2)) : Sm enc (d.bind fun r => (toB r).bind fun k => if k then (c η).bind m else .ok (.bl false)) (.ok (c1 && c2)) := by
  have z := chain_in h1 h2
  cases c1 <;> exact z
theorem u_lst {e : α → D} (h : Sm e ((mas η).bind fun xs => if xs.length ≤ line then .ok (.lst xs) else .stuck) t) : Sm e (dLst mas η) t := h
theorem u_tup {e : α → D} (h : Sm e ((mas η).bind fun xs => if xs.length ≤ line then .ok (.tup xs) else .stuck) t) : Sm e (dTup mas η) t := h
variable [Enc β] [Enc γ]
theorem a_nil {K : List D → Res δ} (g : Sm e (K []) t) : Sm e ((aNil η).bind K) t := g
theorem a_consP {K : List D → Res δ} {x : β} (h : Sm enc (a η) (.ok x)) (g : Sm e ((mas η).bind fun xs => K (enc x :: xs)) t) : Sm e ((aCons a mas η).bind K) t := by
  have h' : a η = .ok (enc x) := h
  have q : (aCons a mas η).bind K = (mas η).bind fun xs => K (enc x :: xs) := by
    rw [ev_cons, h', ev_bind]
    cases mas η <;> rfl
  rw [q]; exact g
theorem a_consE {K : List D → Res δ} {r : Res β} {t : β → Res α} (h : Sm enc (a η) r) (g : ∀ x, Sm e ((mas η).bind fun xs => K (enc x :: xs)) (t x)) : Sm e ((aCons a mas η).bind K) (r.bind t) := by
  cases r with
  | ok x => exact a_consP h (g x)
  | exc er =>
    have h' : a η = .exc er := h
    rw [ev_cons, h']; exact rfl
  | stuck => exact trivial
theorem e_lit {d : D} {x : β} (h : d = enc x) : Sm enc (dLit d η) (.ok x) := by
  subst h; exact rfl
theorem u_and {ra rb : Res Bool} (ha : Sm enc (a η) ra) (hb : Sm enc (b η) rb) : Sm enc (dAnd a b η) (rand ra rb) := by
  rw [ev_and]
  unfold rand
  refine bE ha fun c => ?_
  cases c with
  | true => exact hb
  | false => exact rfl
theorem u_andP {c1 c2 : Bool} (ha : Sm enc (a η) (.ok c1)) (hb : Sm enc (b η) (.ok c2)) : Sm enc (dAnd a b η) (.ok (c1 && c2)) := by
  have z := u_and ha hb
  cases c1 <;> exact z
theorem u_or {ra rb : Res Bool} (ha : Sm enc (a η) ra) (hb : Sm enc (b η) rb) : Sm enc (dOr a b η) (ror ra rb) := by
  rw [ev_or]
  unfold ror
  refine bE ha fun c => ?_
  cases c with
  | true => exact rfl
  | false => exact hb
theorem u_orP {c1 c2 : Bool} (ha : Sm enc (a η) (.ok c1)) (hb : Sm enc (b η) (.ok c2)) : Sm enc (dOr a b η) (.ok (c1 || c2)) := by
  have z := u_or ha hb
  cases c1 <;> exact z
theorem u_notP {c : Bool} (ha : Sm enc (a η) (.ok c)) : Sm enc (dNot a η) (.ok (!c)) := by
  have h' : a η = .ok (.bl c) := ha
  rw [ev_not, h']; exact rfl
theorem u_not {r : Res Bool} (ha : Sm enc (a η) r) : Sm enc (dNot a η) (r.bind fun c => .ok (!c)) := by
  rw [ev_not]
  exact bE ha fun c => rfl
theorem u_qB {r : Res Bool} (h : Sm enc (a η) r) : Sm id (qB a η) r := by
  cases r with
  | ok x => have h' : a η = .ok (.bl x) := h; rw [ev_qB, h']; exact rfl
  | exc er => have h' : a η = .exc er := h; rw [ev_qB, h']; exact rfl
  | stuck => exact trivial
theorem u_qTruB {r : Res Bool} (h : Sm enc (a η) r) : Sm id (qTru a η) r := by
  cases r with
  | ok x => have h' : a η = .ok (.bl x) := h; rw [ev_qTru, h']; exact rfl
  | exc er => have h' : a η = .exc er := h; rw [ev_qTru, h']; exact rfl
  | stuck => exact trivial
theorem u_qTruI {x : Int} (h : Sm enc (a η) (.ok x)) : Sm id (qTru a η) (.ok (x != 0)) := by
  have h' : a η = .ok (.int x) := h; rw [ev_qTru, h']; exact rfl
theorem u_qTruL {xs : List β} (h : Sm enc (a η) (.ok xs)) : Sm id (qTru a η) (.ok (!xs.isEmpty)) := by
  have h' : a η = .ok (.lst (xs.map enc)) := h
  rw [ev_qTru, h']
  cases xs <;> exact rfl
theorem u_qTruD {r : Res D} (h : Sm enc (a η) r) : Sm id (qTru a η) (r.bind D.truth) := by
  cases r with
  | ok x => have h' : a η = .ok x := h; rw [ev_qTru, h']; exact (show Sm id (D.truth x) (D.truth x) from by cases D.truth x <;> first | rfl | trivial)
  | exc er => have h' : a η = .exc er := h; rw [ev_qTru, h']; exact rfl
  | stuck => exact trivial
theorem u_qAnd {ra rb : Res Bool} (ha : Sm id (qa η) ra) (hb : Sm id (qb η) rb) : Sm id (qAnd qa qb η) (rand ra rb) := by
  rw [ev_qAnd]
  unfold rand
  refine bE ha fun c => ?_
  cases c with
  | true => exact hb
  | false => exact rfl
theorem u_qAndP {c1 c2 : Bool} (ha : Sm id (qa η) (.ok c1)) (hb : Sm id (qb η) (.ok c2)) : Sm id (qAnd qa qb η) (.ok (c1 && c2)) := by
  have z := u_qAnd ha hb
  cases c1 <;> exact z
theorem u_qOr {ra rb : Res Bool} (ha : Sm id (qa η) ra) (hb : Sm id (qb η) rb) : Sm id (qOr qa qb η) (ror ra rb) := by
  rw [ev_qOr]
  unfold ror
  refine bE ha fun c => ?_
  cases c with
  | true => exact rfl
  | false => exact hb
theorem u_qOrP {c1 c2 : Bool} (ha : Sm id (qa η) (.ok c1)) (hb : Sm id (qb η) (.ok c2)) : Sm id (qOr qa qb η) (.ok (c1 || c2)) := by
  have z := u_qOr ha hb
  cases c1 <;> exact z
theorem u_qNotP {c : Bool} (ha : Sm id (qa η) (.ok c)) : Sm id (qNot qa η) (.ok (!c)) := by
  have h' : qa η = .ok c := ha
  rw [ev_qNot, h']; exact rfl
theorem u_qNot {r : Res Bool} (ha : Sm id (qa η) r) : Sm id (qNot qa η) (r.bind fun c => .ok (!c)) := by
  rw [ev_qNot]
  exact bE ha fun c => rfl
theorem u_if {q : M Bool} {c : Bool} {r1 r2 : Res β} (hq : Sm id (q η) (.ok c)) (h1 : Sm enc (a η) r1) (h2 : Sm enc (b η) r2) : Sm enc (dIf q a b η) (if c then r1 else r2) := by
  have h' : q η = .ok c := hq
  rw [ev_if, h']
  cases c with
  | true => exact h1
  | false => exact h2
theorem u_ifP {q : M Bool} {c : Bool} {x y : β} (hq : Sm id (q η) (.ok c)) (h1 : Sm enc (a η) (.ok x)) (h2 : Sm enc (b η) (.ok y)) : Sm enc (dIf q a b η) (.ok (if c then x else y)) := by
  have z := u_if hq h1 h2
  cases c <;> exact z
theorem u_ifE {q : M Bool} {r : Res Bool} {r1 r2 : Res β} (hq : Sm id (q η) r) (h1 : Sm enc (a η) r1) (h2 : Sm enc (b η) r2) : Sm enc (dIf q a b η) (r.bind fun c => if c then r1 else r2) := by
  rw [ev_if]
  refine bE hq fun c => ?_
  cases c with
  | true => exact h1
  | false => exact h2
theorem u_chain {r1 r2 : Res Bool} {x : β} {z : β} (ha : Sm enc (a η) (.ok x)) {y : γ} (hb : Sm enc (b η) (.ok y)) (h1 : Sm enc (f (enc x) (enc y)) r1) (h2 : Sm enc ((c η).bind fun z => g (enc y) z) r2) : Sm enc (dChain f g a b c η) (rand r1 r2) := by
  have ha' : a η = .ok (enc x) := ha
  have hb' : b η = .ok (enc y) := hb
  rw [ev_chain, ha', ev_bind, hb', ev_bind]
  unfold rand
  refine bE h1 fun k => ?_
  show Sm enc ((toB (.bl k)).bind fun k => if k then (c η).bind fun z => g (enc y) z else .ok (.bl false)) (if k then r2 else .ok false)
  cases k with
  | true => exact h2
  | false => exact rfl
theorem u_chainP {c1 c2 : Bool} {x : β} (ha : Sm enc (a η) (.ok x)) {y : γ} (hb : Sm enc (b η) (.ok y)) (h1 : Sm enc (f (enc x) (enc y)) (.ok c1)) (h2 : Sm enc ((c η).bind fun z => g (enc y) z) (.ok c2)) : Sm enc (dChain f g a b c η) (.ok (c1 && c2)) := by
  have z := u_chain (z := x) ha hb h1 h2
  cases c1 <;> exact z
theorem u_chainB {r1 r2 : Res Bool} {x : β} (ha : Sm enc (a η) (.ok x)) {y : γ} (hb : Sm enc (b η) (.ok y)) (h1 : Sm enc (f (enc x) (enc y)) r1) (h2 : Sm enc ((c η).bind fun z => g (enc y) z) r2) : Sm enc (dChain f g a b c η) (rand r1 r2) := u_chain (z := x) ha hb h1 h2
end
/-! leaves -/
section
variable {α β γ : Type} [Enc α] [Enc β] [Enc γ] {x y : Int} {xs ys : List α}
theorem l_add : Sm enc (opAdd (enc x) (enc y)) (.ok (x + y)) := rfl
theorem l_addI : Sm enc (opAddI (enc x) (enc y)) (.ok (x + y)) := rfl
theorem l_sub : Sm enc (opSub (enc x) (enc y)) (.ok (x - y)) := rfl
theorem l_neg : Sm enc (opNeg (enc x)) (.ok (-x)) := rfl
theorem l_inv : Sm enc (opInv (enc x)) (.ok (Builtin.bitNot x)) := rfl
theorem l_bitAnd : Sm enc (opAnd (enc x) (enc y)) (.ok (Builtin.bitAnd x y)) := rfl
theorem l_bitOr : Sm enc (opOr (enc x) (enc y)) (.ok (Builtin.bitOr x y)) := rfl
theorem l_bitXor : Sm enc (opXor (enc x) (enc y)) (.ok (Builtin.bitXor x y)) := rfl
theorem l_mul : Sm enc (opMul (enc x) (enc y)) (imul x y) := by
  by_cases h : mulOk x y = true
  · show Sm enc (opMul (.int x) (.int y)) (imul x y)
    rw [ev_mul h]
    unfold imul
    rw [if_pos h]; exact rfl
  · unfold imul
    rw [if_neg h]; exact trivial
theorem l_div : Sm enc (opDiv (enc x) (enc y)) (idiv x y) := by
  by_cases h : divOk x y = true
  · show Sm enc (opDiv (.int x) (.int y)) (idiv x y)
    rw [ev_div h]
    unfold idiv
    rw [if_pos h]; exact rfl
  · unfold idiv
    rw [if_neg h]; exact trivial
theorem l_mod : Sm enc (opMod (enc x) (enc y)) (imod x y) := by
  by_cases h : 0 < y
  · show Sm enc (opMod (.int x) (.int y)) (imod x y)
    rw [ev_mod h]
    unfold imod
    rw [if_pos h]; exact rfl
  · unfold imod
    rw [if_neg h]; exact trivial
theorem l_pow : Sm enc (opPow (enc x) (enc y)) (ipow x y) := by
  by_cases h : powOk x y = true
  · show Sm enc (opPow (.int x) (.int y)) (ipow x y)
    rw [ev_pow h]
    unfold ipow
    rw [if_pos h]; exact rfl
  · unfold ipow
    rw [if_neg h]; exact trivial
theorem l_shl : Sm enc (opShl (enc x) (enc y)) (ishl x y) := by
  by_cases h : shlOk x y = true
  · show Sm enc (opShl (.int x) (.int y)) (ishl x y)
    rw [ev_shl h]
    unfold ishl
    rw [if_pos h]; exact rfl
  · unfold ishl
    rw [if_neg h]; exact trivial
theorem l_shr : Sm enc (opShr (enc x) (enc y)) (ishr x y) := by
  by_cases h : 0 ≤ y
  · show Sm enc (opShr (.int x) (.int y)) (ishr x y)
    rw [ev_shr h]
    unfold ishr
    rw [if_pos h]; exact rfl
  · unfold ishr
    rw [if_neg h]; exact trivial
theorem l_lt : Sm enc (opLt (enc x) (enc y)) (.ok (decide (x < y))) := rfl
theorem l_le : Sm enc (opLe (enc x) (enc y)) (.ok (decide (x ≤ y))) := rfl
theorem l_gt : Sm enc (opGt (enc x) (enc y)) (.ok (decide (y < x))) := rfl
theorem l_ge : Sm enc (opGe (enc x) (enc y)) (.ok (decide (y ≤ x))) := rfl
theorem l_isB {u v : Bool} : Sm enc (opIsB (enc u) (enc v)) (.ok (decide (u = v))) := rfl
theorem l_isNotB {u v : Bool} : Sm enc (opIsNotB (enc u) (enc v)) (.ok (!decide (u = v))) := rfl
theorem l_isNone {o : Option Int} : Sm enc (opIsNone (enc o)) (.ok o.isNone) := by cases o <;> rfl
theorem l_abs : Sm enc (fAbs [enc x]) (.ok (iabs x)) := rfl
theorem l_int : Sm enc (fInt [enc x]) (.ok x) := rfl
theorem l_intB {u : Bool} : Sm enc (fInt [enc u]) (.ok (b2i u)) := rfl
theorem l_max2 : Sm enc (fMax2 [enc x, enc y]) (.ok (imax2 x y)) := rfl
theorem l_min2 : Sm enc (fMin2 [enc x, enc y]) (.ok (imin2 x y)) := rfl
theorem l_len : Sm enc (fLen [enc xs]) (.ok (ilen xs)) := by
  show Sm enc (fLen [.lst (xs.map enc)]) _
  unfold fLen
  show Res.ok (D.int ((xs.map enc).length : Nat)) = .ok (.int (xs.length : Nat))
  rw [List.length_map]
theorem l_lenT {xs : Tup α} : Sm enc (fLen [enc xs]) (.ok (ilen xs.items)) := by
  show Sm enc (fLen [.tup (xs.items.map enc)]) _
  unfold fLen
  show Res.ok (D.int ((xs.items.map enc).length : Nat)) = .ok (.int (xs.items.length : Nat))
  rw [List.length_map]
theorem l_list : Sm enc (fList [enc xs]) (.ok xs) := rfl
theorem l_listT {xs : Tup α} : Sm enc (fList [enc xs]) (.ok xs.items) := rfl
theorem l_tuple : Sm enc (fTuple [enc xs]) (.ok (Tup.mk xs)) := rfl
theorem l_tupleT {xs : Tup α} : Sm enc (fTuple [enc xs]) (.ok xs) := rfl
theorem l_sum {xs : List Int} : Sm enc (fSum [enc xs]) (.ok xs.sum) := sum_ints xs
theorem l_max {xs : List Int} : Sm enc (fMax [enc xs]) (imaxL xs) := by
  unfold imaxL
  cases xs with
  | nil => exact trivial
  | cons a r => exact max_ints a r
theorem l_min {xs : List Int} : Sm enc (fMin [enc xs]) (iminL xs) := by
  unfold iminL
  cases xs with
  | nil => exact trivial
  | cons a r =>
    show (match ints? ((a :: r).map D.int) with | some (a :: r) => Res.ok (D.int (minL (a :: r))) | _ => .stuck) = _
    rw [ints_of]; exact rfl
theorem l_cat : Sm enc (opAdd (enc xs) (enc ys)) (lcat xs ys) := by
  show Sm enc (opAdd (.lst (xs.map enc)) (.lst (ys.map enc))) _
  unfold opAdd lcat
  simp only [List.length_map]
  split
  · show Res.ok (D.lst (xs.map enc ++ ys.map enc)) = .ok (.lst ((xs ++ ys).map enc))
    rw [List.map_append]
  · exact trivial
theorem l_rep {k : Int} : Sm enc (opMul (enc xs) (enc k)) (lrep xs k) := by
  show Sm enc (opMul (.lst (xs.map enc)) (.int k)) _
  unfold opMul lrep
  simp only [List.length_map]
  split
  · show Res.ok (D.lst (List.replicate k.toNat (xs.map enc)).flatten) = .ok (.lst ((List.replicate k.toNat xs).flatten.map enc))
    rw [List.map_flatten, List.map_replicate]
  · exact trivial
theorem l_ix : Sm enc (opIx (enc xs) (enc x)) (ix xs x) := by
  show Sm enc (opIx (.lst (xs.map enc)) (.int x)) _
  unfold opIx ix atD atL
  simp only [List.length_map]
  cases h : ixOf xs.length x with
  | none => exact trivial
  | some j =>
    simp only [Option.bind_some, List.getElem?_map]
    cases xs[j]? with
    | none => exact trivial
    | some z => exact rfl
theorem l_ixTup {xs : Tup α} : Sm enc (opIx (enc xs) (enc x)) (ix xs.items x) := by
  show Sm enc (opIx (.tup (xs.items.map enc)) (.int x)) _
  unfold opIx ix atD atL
  simp only [List.length_map]
  cases h : ixOf xs.items.length x with
  | none => exact trivial
  | some j =>
    simp only [Option.bind_some, List.getElem?_map]
    cases xs.items[j]? with
    | none => exact trivial
    | some z => exact rfl
theorem l_ix20 {p : α × β} : Sm enc (opIx (enc p) (enc (0 : Int))) (.ok p.1) := ev_ixT0
theorem l_ix21 {p : α × β} : Sm enc (opIx (enc p) (enc (1 : Int))) (.ok p.2) := ev_ixT1
theorem l_ix30 {p : T3 α β γ} : Sm enc (opIx (enc p) (enc (0 : Int))) (.ok p.a) := ev_ixT0
theorem l_ix31 {p : T3 α β γ} : Sm enc (opIx (enc p) (enc (1 : Int))) (.ok p.b) := ev_ixT1
theorem l_ix32 {p : T3 α β γ} : Sm enc (opIx (enc p) (enc (2 : Int))) (.ok p.c) := ev_ixT2
theorem cut_map' {f : α → D} {lo hi : Option Int} : cutD (xs.map f) lo hi = (cutL xs lo hi).map f := by
  unfold cutD cutL
  rw [List.length_map, ← List.map_drop, ← List.map_take]
theorem l_slL {lo hi : Option Int} : Sm enc (opSlL (enc xs) lo hi) (.ok (cutL xs lo hi)) := by
  show Res.ok (D.lst (cutD (xs.map enc) lo hi)) = .ok (.lst ((cutL xs lo hi).map enc))
  rw [cut_map']
theorem l_sl {lo hi : Option Int} : Sm enc (opSl (enc xs) lo hi) (.ok (cutL xs lo hi)) := by
  show Res.ok (D.lst (cutD (xs.map enc) lo hi)) = .ok (.lst ((cutL xs lo hi).map enc))
  rw [cut_map']
theorem l_lst0 : Sm enc (if ([] : List D).length ≤ line then Res.ok (.lst []) else .stuck) (.ok ([] : List α)) := rfl
theorem l_lst {ds : List D} (h : ds = xs.map enc) (hl' : Nat.ble ds.length 100000 = true) : Sm enc (if ds.length ≤ line then Res.ok (.lst ds) else .stuck) (.ok xs) := by
  have hl : ds.length ≤ 100000 := Nat.le_of_ble_eq_true hl'
  rw [if_pos (le_line hl), h]; exact rfl
theorem l_tup {ds : List D} {p : α} (h : D.tup ds = enc p) (hl' : Nat.ble ds.length 100000 = true) : Sm enc (if ds.length ≤ line then Res.ok (.tup ds) else .stuck) (.ok p) := by
  have hl : ds.length ≤ 100000 := Nat.le_of_ble_eq_true hl'
  rw [if_pos (le_line hl), h]; exact rfl
theorem l_coe {d : Res D} {p : α} (h : Sm enc d (.ok p)) : Sm enc d (.ok (enc p : D)) := h
theorem l_coeE {d : Res D} {r : Res α} (h : Sm enc d r) : Sm enc d (r.bind fun p => .ok (enc p : D)) := by
  cases r <;> exact h
theorem l_some {d : Res D} {p : α} (h : Sm enc d (.ok p)) : Sm enc d (.ok (some p)) := h
theorem l_someE {d : Res D} {r : Res α} (h : Sm enc d r) : Sm enc d (r.bind fun p => .ok (some p)) := by
  cases r <;> exact h
theorem l_isNoneO {o : Option α} (h : ∀ x : α, (enc x : D).isNon = false) : Sm enc (opIsNone (enc o)) (.ok o.isNone) := by
  cases o with
  | none => exact rfl
  | some x => show Res.ok (D.bl (enc x : D).isNon) = _; rw [h x]; exact rfl
theorem l_notNoneO {o : Option α} (h : ∀ x : α, (enc x : D).isNon = false) : Sm enc (opNotNone (enc o)) (.ok o.isSome) := by
  cases o with
  | none => exact rfl
  | some x => show Res.ok (D.bl (!(enc x : D).isNon)) = _; rw [h x]; exact rfl
/-- what a type says of isinstance -/
theorem l_isTy {T : String} {d : D} {c : Bool} (h : isTy T d = some c) : Sm enc (opIsTy T d) (.ok c) := by
  unfold opIsTy
  rw [h]; exact rfl
def isTyD (T : String) (d : D) : Res Bool := match isTy T d with
  | some b => .ok b
  | none => .stuck
theorem l_isTyD {T : String} {d : D} : Sm enc (opIsTy T d) (isTyD T d) := by
  unfold opIsTy isTyD
  cases isTy T d with
  | none => exact trivial
  | some b => exact rfl
theorem l_isTyI {T : String} {c : Bool} (h : isTy T (.int 0) = some c) : Sm enc (opIsTy T (enc x)) (.ok c) := l_isTy h
theorem l_isTyL {T : String} {c : Bool} (h : isTy T (.lst []) = some c) : Sm enc (opIsTy T (enc xs)) (.ok c) := l_isTy h
def isEr (e c : Er) : Res Bool := if e.own && c.own then .ok (e.sub c) else .stuck
theorem l_isEr {e c : Er} {η : Env} : Sm enc (dIsEr e c η) (isEr e c) := by
  unfold dIsEr isEr
  split <;> first | exact rfl | exact trivial
end
/-! equality -/
class EqD (α : Type) [Enc α] where
  dep : Nat
  ok : ∀ x : α, (enc x).plain = true ∧ PyData.canLay0 (enc x).toPD = true ∧ PyData.depth (enc x).toPD ≤ dep
  eqv : ∀ x y : α, D.eqv (enc x) (enc y) = true ↔ x = y
instance : EqD Int := ⟨0, fun x => ⟨rfl, rfl, Nat.le_refl _⟩, fun x y => by
  show PyData.eqv (.int x) (.int y) = true ↔ x = y
  unfold PyData.eqv
  simp⟩
instance : EqD Bool := ⟨0, fun x => ⟨rfl, rfl, Nat.le_refl _⟩, fun x y => by
  cases x <;> cases y <;> decide⟩
instance : EqD Unit := ⟨0, fun x => ⟨rfl, rfl, Nat.le_refl _⟩, fun x y => by
  cases x; cases y; decide⟩
section
variable {α β γ : Type} [Enc α] [Enc β] [Enc γ] [EqD α] [EqD β] [EqD γ]
theorem eqs_ok : ∀ xs : List α, D.plains (xs.map enc) = true ∧ PyData.canLayAll0 (D.toPDs (xs.map enc)) = true ∧ PyData.depthAll (D.toPDs (xs.map enc)) ≤ EqD.dep α
  | [] => ⟨rfl, rfl, Nat.zero_le _⟩
  | x :: xs => by
    obtain ⟨a1, a2, a3⟩ := EqD.ok x
    obtain ⟨b1, b2, b3⟩ := eqs_ok xs
    rw [List.map_cons]
    unfold D.plains D.toPDs PyData.canLayAll0 PyData.depthAll
    rw [a1, a2, b1, b2]
    refine ⟨rfl, rfl, ?_⟩
    exact Nat.max_le.mpr ⟨a3, b3⟩
theorem eqs_eqv : ∀ xs ys : List α, PyData.eqvAll (D.toPDs (xs.map enc)) (D.toPDs (ys.map enc)) = true ↔ xs = ys
  | [], [] => by simp [D.toPDs, PyData.eqvAll]
  | [], y :: ys => by simp [D.toPDs, PyData.eqvAll]
  | x :: xs, [] => by simp [D.toPDs, PyData.eqvAll]
  | x :: xs, y :: ys => by
    have z1 := EqD.eqv x y
    have z2 := eqs_eqv xs ys
    unfold D.eqv at z1
    simp only [List.map_cons, D.toPDs, PyData.eqvAll, Bool.and_eq_true, z1, z2, List.cons.injEq]
instance : EqD (List α) := ⟨EqD.dep α + 1, fun xs => by
  obtain ⟨h1, h2, h3⟩ := eqs_ok xs
  refine ⟨h1, h2, ?_⟩
  show PyData.depth (.list (D.toPDs (xs.map enc))) ≤ _
  unfold PyData.depth
  omega, fun xs ys => by
  show PyData.eqv (.list (D.toPDs (xs.map enc))) (.list (D.toPDs (ys.map enc))) = true ↔ _
  unfold PyData.eqv
  exact eqs_eqv xs ys⟩
instance : EqD (Tup α) := ⟨EqD.dep α + 1, fun xs => by
  obtain ⟨h1, h2, h3⟩ := eqs_ok xs.items
  refine ⟨h1, h2, ?_⟩
  show PyData.depth (.tuple (D.toPDs (xs.items.map enc))) ≤ _
  unfold PyData.depth
  omega, fun xs ys => by
  show PyData.eqv (.tuple (D.toPDs (xs.items.map enc))) (.tuple (D.toPDs (ys.items.map enc))) = true ↔ _
  unfold PyData.eqv
  rw [eqs_eqv]
  cases xs; cases ys; simp⟩
instance : EqD (α × β) := ⟨max (EqD.dep α) (EqD.dep β) + 1, fun p => by
  obtain ⟨a1, a2, a3⟩ := EqD.ok p.1
  obtain ⟨b1, b2, b3⟩ := EqD.ok p.2
  refine ⟨?_, ?_, ?_⟩
  · show (D.plain (enc p.1) && (D.plain (enc p.2) && true)) = true
    rw [a1, b1]; rfl
  · show (PyData.canLay0 (enc p.1).toPD && (PyData.canLay0 (enc p.2).toPD && true)) = true
    rw [a2, b2]; rfl
  · show PyData.depth (.tuple [(enc p.1).toPD, (enc p.2).toPD]) ≤ _
    simp only [PyData.depth, PyData.depthAll]
    omega, fun p q => by
  show PyData.eqv (.tuple [(enc p.1).toPD, (enc p.2).toPD]) (.tuple [(enc q.1).toPD, (enc q.2).toPD]) = true ↔ _
  have z1 := EqD.eqv p.1 q.1
  have z2 := EqD.eqv p.2 q.2
  unfold D.eqv at z1 z2
  simp only [PyData.eqv, PyData.eqvAll, Bool.and_eq_true, z1, z2, Prod.ext_iff, and_true]⟩
instance : EqD (T3 α β γ) := ⟨max (EqD.dep α) (max (EqD.dep β) (EqD.dep γ)) + 1, fun p => by
  obtain ⟨a1, a2, a3⟩ := EqD.ok p.a
  obtain ⟨b1, b2, b3⟩ := EqD.ok p.b
  obtain ⟨c1, c2, c3⟩ := EqD.ok p.c
  refine ⟨?_, ?_, ?_⟩
  · show (D.plain (enc p.a) && (D.plain (enc p.b) && (D.plain (enc p.c) && true))) = true
    rw [a1, b1, c1]; rfl
  · show (PyData.canLay0 (enc p.a).toPD && (PyData.canLay0 (enc p.b).toPD && (PyData.canLay0 (enc p.c).toPD && true))) = true
    rw [a2, b2, c2]; rfl
  · show PyData.depth (.tuple [(enc p.a).toPD, (enc p.b).toPD, (enc p.c).toPD]) ≤ _
    simp only [PyData.depth, PyData.depthAll]
    omega, fun p q => by
  show PyData.eqv (.tuple [(enc p.a).toPD, (enc p.b).toPD, (enc p.c).toPD]) (.tuple [(enc q.a).toPD, (enc q.b).toPD, (enc q.c).toPD]) = true ↔ _
  have z1 := EqD.eqv p.a q.a
  have z2 := EqD.eqv p.b q.b
  have z3 := EqD.eqv p.c q.c
  unfold D.eqv at z1 z2 z3
  cases p; cases q
  simp only [PyData.eqv, PyData.eqvAll, Bool.and_eq_true, z1, z2, z3, and_true, T3.mk.injEq]⟩
theorem eqOk_of (x : α) (h : EqD.dep α ≤ 64) : (enc x).eqOk = true := by
  obtain ⟨a1, a2, a3⟩ := EqD.ok x
  unfold D.eqOk SeqAt.shaped
  rw [a1, a2]
  simp only [Bool.true_and]
  exact decide_eq_true (by omega)
open Classical in
theorem l_eq {x y : α} [DecidableEq α] (h : EqD.dep α ≤ 64 := by decide) : Sm enc (opEq (enc x) (enc y)) (.ok (decide (x = y))) := by
  unfold opEq
  rw [eqOk_of x h, eqOk_of y h]
  show Res.ok (D.bl (D.eqv (enc x) (enc y))) = .ok (.bl (decide (x = y)))
  congr 2
  rw [Bool.eq_iff_iff, decide_eq_true_iff]
  exact EqD.eqv x y
theorem l_ne {x y : α} [DecidableEq α] (h : EqD.dep α ≤ 64 := by decide) : Sm enc (opNe (enc x) (enc y)) (.ok (!decide (x = y))) := by
  unfold opNe
  rw [eqOk_of x h, eqOk_of y h]
  show Res.ok (D.bl (!D.eqv (enc x) (enc y))) = .ok (.bl (!decide (x = y)))
  congr 3
  rw [Bool.eq_iff_iff, decide_eq_true_iff]
  exact EqD.eqv x y
theorem eq_any {x : α} [DecidableEq α] : ∀ xs : List α, ((xs.map enc).any fun y => D.eqv y (enc x)) = decide (x ∈ xs)
  | [] => by simp
  | y :: ys => by
    rw [List.map_cons, List.any_cons, eq_any ys]
    have z := EqD.eqv y x
    rw [Bool.eq_iff_iff]
    simp only [Bool.or_eq_true, z, decide_eq_true_iff, List.mem_cons]
    constructor <;> rintro (h | h) <;> first | exact .inl h.symm | exact .inr h
theorem l_in {x : α} {xs : List α} [DecidableEq α] (h : EqD.dep α + 1 ≤ 64 := by decide) : Sm enc (opIn (enc x) (enc xs)) (.ok (decide (x ∈ xs))) := by
  have e := eqOk_of xs (show EqD.dep (List α) ≤ 64 from h)
  show Sm enc (if (enc x).eqOk && (enc xs).eqOk then .ok (.bl ((xs.map enc).any fun y => D.eqv y (enc x))) else .stuck) _
  rw [eqOk_of x (by omega), e, eq_any]
  exact rfl
theorem l_notIn {x : α} {xs : List α} [DecidableEq α] (h : EqD.dep α + 1 ≤ 64 := by decide) : Sm enc (opNotIn (enc x) (enc xs)) (.ok (!decide (x ∈ xs))) := by
  have e := eqOk_of xs (show EqD.dep (List α) ≤ 64 from h)
  show Sm enc (if (enc x).eqOk && (enc xs).eqOk then .ok (.bl (!(xs.map enc).any fun y => D.eqv y (enc x))) else .stuck) _
  rw [eqOk_of x (by omega), e, eq_any]
  exact rfl
end
def dB (r : Res D) : Res Bool := r.bind toB
theorem l_dB {r : Res D} (h : ∀ x, r = .ok x → ∃ b, x = .bl b) : Sm enc r (dB r) := by
  cases r with
  | ok x =>
    obtain ⟨b, rfl⟩ := h x rfl
    exact rfl
  | exc e => exact rfl
  | stuck => exact trivial
theorem l_eqD {x y : D} : Sm enc (opEq x y) (dB (opEq x y)) := l_dB fun z h => by
  unfold opEq at h
  split at h
  · exact ⟨_, (Res.ok.inj h).symm⟩
  · cases h
theorem l_neD {x y : D} : Sm enc (opNe x y) (dB (opNe x y)) := l_dB fun z h => by
  unfold opNe at h
  split at h
  · exact ⟨_, (Res.ok.inj h).symm⟩
  · cases h
theorem l_cmpD {p : Int → Int → Bool} {x y : D} : Sm enc (cmpI p x y) (dB (cmpI p x y)) := l_dB fun z h => by
  unfold cmpI at h
  split at h
  · exact ⟨_, (Res.ok.inj h).symm⟩
  · cases h
theorem l_D {r : Res D} : Sm enc r r := Sm.self
theorem l_isNoneD {x : D} : Sm enc (opIsNone x) (.ok x.isNon) := rfl
theorem l_notNoneD {x : D} : Sm enc (opNotNone x) (.ok (!x.isNon)) := rfl
/-! lists in slots -/
section
variable {α β γ δ : Type} [Enc α] [Enc β] [Enc γ] {η : Env} {L X : En} {k N : Nat} {a b : M D} {xs : List α}
theorem lstAt_has (h : Has η L) (e : lk L k = some (.lst ys)) : lstAt η k = .ok ys := by
  unfold lstAt
  rw [h k _ e]
theorem u_lenAt {xs : List α} (h : Has η L) (e : lk L k = some (enc xs)) : Sm enc (lenAt k η) (.ok (ilen xs)) := by
  have z := lstAt_has (ys := xs.map enc) h e
  rw [ev_lenAt, z]
  show Res.ok (D.int ((xs.map enc).length : Nat)) = .ok (.int (xs.length : Nat))
  rw [List.length_map]
theorem u_ixAt {xs : List α} {i : Int} (h : Has η L) (e : lk L k = some (enc xs)) (hb : Sm enc (b η) (.ok i)) : Sm enc (ixAt k b η) (ix xs i) := by
  have z := lstAt_has (ys := xs.map enc) h e
  have hb' : b η = .ok (.int i) := hb
  unfold ixAt
  rw [z, ev_bind, hb', ev_bind]
  exact l_ix
theorem u_ixAtE {xs : List α} {r : Res Int} (h : Has η L) (e : lk L k = some (enc xs)) (hb : Sm enc (b η) r) : Sm enc (ixAt k b η) (r.bind fun i => ix xs i) := by
  cases r with
  | ok i => exact u_ixAt h e hb
  | exc er =>
    have z := lstAt_has (ys := xs.map enc) h e
    have hb' : b η = .exc er := hb
    unfold ixAt
    rw [z, ev_bind, hb']
    exact rfl
  | stuck => exact trivial
variable {β' σ τ ρ : Type} [Enc ρ] {Lb : β' → En} {Ls : σ → En} {ms : List (Env → Fl)}
theorem k_app {xs : List α} {r : Res α} {t : List α → TF β' σ ρ} (hk : k < N) (hX : Sub L X) (e : lk L k = some (enc xs)) (ha : ∀ η, η.length = N → Has η L → Sm enc (a η) r) (h : ∀ ys, SimK N X Lb Ls ms ((k, enc ys) :: L) (t ys)) : SimK N X Lb Ls (sApp k a :: ms) L (onE (r.bind fun x => lapp xs x) t) := fun η hl hη => by
  have z := lstAt_has (ys := xs.map enc) hη e
  show Post N X Lb Ls (match onRes (lstAt η k) η (fun xs => onRes (a η) η fun d => if xs.length < line then .nx (η.set k (some (.lst (xs ++ [d])))) else .stuck) with | .nx η' => runK ms η' | r => r) _
  rw [z, ev_on]
  have q := ha η hl hη
  cases r with
  | ok x =>
    have q' : a η = .ok (enc x) := q
    rw [q', ev_on]
    show Post N X Lb Ls _ (onE (lapp xs x) t)
    unfold lapp
    rw [List.length_map]
    by_cases hc : xs.length < line
    · rw [if_pos hc, if_pos hc]
      have y := h (xs ++ [x]) (η.set k (some (enc (xs ++ [x])))) (by rw [List.length_set]; exact hl) (hη.set k (by omega))
      have e2 : (enc (xs ++ [x]) : D) = .lst (xs.map enc ++ [enc x]) := by
        show D.lst ((xs ++ [x]).map enc) = _
        rw [List.map_append]; rfl
      rw [e2] at y
      exact y
    · rw [if_neg hc, if_neg hc]
      exact trivial
  | exc er =>
    have q' : a η = .exc er := q
    rw [q']
    exact ⟨η, rfl, hl, hX η hη⟩
  | stuck => exact trivial
theorem k_appP {xs : List α} {x : α} {t : List α → TF β' σ ρ} (hk : k < N) (hX : Sub L X) (e : lk L k = some (enc xs)) (ha : ∀ η, η.length = N → Has η L → Sm enc (a η) (.ok x)) (h : ∀ ys, SimK N X Lb Ls ms ((k, enc ys) :: L) (t ys)) : SimK N X Lb Ls (sApp k a :: ms) L (onE (lapp xs x) t) := k_app (r := .ok x) hk hX e ha h
/-- xs[i] = e -/
theorem k_set {xs : List α} {x : α} {i : Int} {t : List α → TF β' σ ρ} (hk : k < N) (hX : Sub L X) (e : lk L k = some (enc xs)) (ha : ∀ η, η.length = N → Has η L → Sm enc (a η) (.ok x)) (hb : ∀ η, η.length = N → Has η L → Sm enc (b η) (.ok i)) (h : ∀ ys, SimK N X Lb Ls ms ((k, enc ys) :: L) (t ys)) : SimK N X Lb Ls (sSet k b a :: ms) L (onE (setI xs i x) t) := fun η hl hη => by
  have z := lstAt_has (ys := xs.map enc) hη e
  have q1 : a η = .ok (enc x) := ha η hl hη
  have q2 : b η = .ok (.int i) := hb η hl hη
  have q3 : sSet k b a η = match setD (xs.map enc) i (enc x) with | some ys => .nx (η.set k (some (.lst ys))) | none => .stuck := by
    rw [ev_set, q1, ev_on, z, ev_on, q2, ev_on]
    try rfl
  show Post N X Lb Ls (match sSet k b a η with | .nx η' => runK ms η' | r => r) _
  rw [q3]
  unfold setI setD
  rw [List.length_map]
  cases ixOf xs.length i with
  | none => exact trivial
  | some j =>
    have y := h (xs.set j x) (η.set k (some (enc (xs.set j x)))) (by rw [List.length_set]; exact hl) (hη.set k (by omega))
    have e2 : (enc (xs.set j x) : D) = .lst ((xs.map enc).set j (enc x)) := by
      show D.lst ((xs.set j x).map enc) = _
      rw [List.map_set]
    rw [e2] at y
    exact y
theorem k_setE {xs : List α} {r : Res (α × Int)} {t : List α → TF β' σ ρ} (hk : k < N) (hX : Sub L X) (e : lk L k = some (enc xs)) (ha : ∀ η, η.length = N → Has η L → Sm (fun p : α × Int => (enc p.1, D.int p.2)) ((a η).bind fun x => (b η).bind fun y => match y with | .int i => .ok (x, D.int i) | _ => .stuck) r) (h : ∀ ys, SimK N X Lb Ls ms ((k, enc ys) :: L) (t ys)) : SimK N X Lb Ls (sSet k b a :: ms) L (onE (r.bind fun p => setI xs p.2 p.1) t) := fun η hl hη => by
  have z := lstAt_has (ys := xs.map enc) hη e
  have q := ha η hl hη
  show Post N X Lb Ls (match sSet k b a η with | .nx η' => runK ms η' | r => r) _
  rw [ev_set, z]
  cases r with
  | stuck => exact trivial
  | exc er =>
    have q' : ((a η).bind fun x => (b η).bind fun y => match y with | .int i => Res.ok (x, D.int i) | _ => .stuck) = .exc er := q
    cases h1 : a η with
    | exc e1 => rw [h1] at q'; cases q'; exact ⟨η, rfl, hl, hX η hη⟩
    | stuck => rw [h1] at q'; cases q'
    | ok x =>
      rw [h1] at q'
      rw [ev_on, ev_on]
      cases h2 : b η with
      | exc e1 => rw [h2] at q'; cases q'; exact ⟨η, rfl, hl, hX η hη⟩
      | stuck => rw [h2] at q'; cases q'
      | ok y => rw [h2] at q'; cases y <;> cases q'
  | ok p =>
    have q' : ((a η).bind fun x => (b η).bind fun y => match y with | .int i => Res.ok (x, D.int i) | _ => .stuck) = .ok (enc p.1, D.int p.2) := q
    cases h1 : a η with
    | exc e1 => rw [h1] at q'; cases q'
    | stuck => rw [h1] at q'; cases q'
    | ok x =>
      rw [h1] at q'
      cases h2 : b η with
      | exc e1 => rw [h2] at q'; cases q'
      | stuck => rw [h2] at q'; cases q'
      | ok y =>
        rw [h2] at q'
        cases y <;> first | (cases q'; done) | skip
        rename_i i
        have q2 : Res.ok (x, D.int i) = .ok (enc p.1, D.int p.2) := q'
        have q3 := Res.ok.inj q2
        have q4 : x = enc p.1 := congrArg Prod.fst q3
        have q5 : D.int i = D.int p.2 := congrArg Prod.snd q3
        cases q5
        subst q4
        have w := k_set (N := N) (X := X) (L := L) (Lb := Lb) (Ls := Ls) (ms := ms) (a := fun _ => .ok (enc p.1)) (b := fun _ => .ok (.int p.2)) (xs := xs) (x := p.1) (i := p.2) hk hX e (fun _ _ _ => rfl) (fun _ _ _ => rfl) h η hl hη
        have w' : Post N X Lb Ls (match sSet k (fun _ => .ok (.int p.2)) (fun _ => .ok (enc p.1)) η with | .nx η' => runK ms η' | r => r) (onE (setI xs p.2 p.1) t) := w
        rw [ev_set, z] at w'
        exact w'
end
/-! a list taken apart -/
def un2 {α : Type} : List α → Res (α × α)
  | [a, b] => .ok (a, b)
  | _ => .stuck
def un3 {α : Type} : List α → Res (T3 α α α)
  | [a, b, c] => .ok ⟨a, b, c⟩
  | _ => .stuck
def un4 {α : Type} : List α → Res (T4 α α α α)
  | [a, b, c, d] => .ok ⟨a, b, c, d⟩
  | _ => .stuck
def un5 {α : Type} : List α → Res (T5 α α α α α)
  | [a, b, c, d, e] => .ok ⟨a, b, c, d, e⟩
  | _ => .stuck
section
variable {α : Type} [Enc α] {d : Res D} {r : Res (List α)}
theorem l_un2 (h : Sm enc d r) : Sm (fun p : α × α => .lst [enc p.1, enc p.2]) d (r.bind un2) := by
  rcases r with (_ | ⟨a, _ | ⟨b, _ | _⟩⟩) | er | _ <;> first | exact trivial | exact h
theorem l_un3 (h : Sm enc d r) : Sm (fun p : T3 α α α => .lst [enc p.a, enc p.b, enc p.c]) d (r.bind un3) := by
  rcases r with (_ | ⟨a, _ | ⟨b, _ | ⟨c, _ | _⟩⟩⟩) | er | _ <;> first | exact trivial | exact h
theorem l_un4 (h : Sm enc d r) : Sm (fun p : T4 α α α α => .lst [enc p.a, enc p.b, enc p.c, enc p.d]) d (r.bind un4) := by
  rcases r with (_ | ⟨a, _ | ⟨b, _ | ⟨c, _ | ⟨e, _ | _⟩⟩⟩⟩) | er | _ <;> first | exact trivial | exact h
theorem l_un5 (h : Sm enc d r) : Sm (fun p : T5 α α α α α => .lst [enc p.a, enc p.b, enc p.c, enc p.d, enc p.e]) d (r.bind un5) := by
  rcases r with (_ | ⟨a, _ | ⟨b, _ | ⟨c, _ | ⟨e, _ | ⟨f, _ | _⟩⟩⟩⟩⟩) | er | _ <;> first | exact trivial | exact h
end
/-! ### what is walked -/
section
variable {α β : Type} [Enc α] [Enc β] {η : Env} {a b c : M D} {xs : List α} {r : Res (List α)}
theorem i_seq {e : β → List D} {t : Res β} (h : Sm e ((a η).bind items) t) : Sm e (iSeq a η) t := h
theorem i_seqP (h : Sm enc (a η) (.ok xs)) : Sm (List.map enc) (iSeq a η) (.ok xs) := by
  have h' : a η = .ok (.lst (xs.map enc)) := h
  rw [ev_iSeq, h']; exact rfl
theorem i_seqE (h : Sm enc (a η) r) : Sm (List.map enc) (iSeq a η) r := by
  cases r with
  | ok x => exact i_seqP h
  | exc er => have h' : a η = .exc er := h; rw [ev_iSeq, h']; exact rfl
  | stuck => exact trivial
theorem i_seqT {xs : Tup α} (h : Sm enc (a η) (.ok xs)) : Sm (List.map enc) (iSeq a η) (.ok xs.items) := by
  have h' : a η = .ok (.tup (xs.items.map enc)) := h
  rw [ev_iSeq, h']; exact rfl
def itemsD (d : D) : Res (List D) := items d
theorem i_seqD {r : Res D} (h : Sm enc (a η) r) : Sm (List.map (enc : D → D)) (iSeq a η) (r.bind itemsD) := by
  cases r with
  | ok x =>
    have h' : a η = .ok x := h
    rw [ev_iSeq, h', ev_bind]
    show Sm (List.map (enc : D → D)) (items x) (items x)
    cases items x with
    | ok ys => show Res.ok ys = .ok (ys.map fun d => d); rw [List.map_id']
    | exc e => exact rfl
    | stuck => exact trivial
  | exc er => have h' : a η = .exc er := h; rw [ev_iSeq, h']; exact rfl
  | stuck => exact trivial
/-- a tuple that is written, all items of one type -/
theorem i_seqW {ds : List D} (h : a η = .ok (.tup ds)) (e : ds = xs.map enc) : Sm (List.map enc) (iSeq a η) (.ok xs) := by
  rw [ev_iSeq, h, e]; exact rfl
theorem u_tupI {β : Type} {e : β → List D} {t : Res β} {mas : M (List D)} (h : Sm e ((mas η).bind fun xs => (if xs.length ≤ line then Res.ok (D.tup xs) else .stuck).bind items) t) : Sm e ((dTup mas η).bind items) t := by
  have q : (dTup mas η).bind items = (mas η).bind fun xs => (if xs.length ≤ line then Res.ok (D.tup xs) else .stuck).bind items := by
    rw [ev_tup]
    cases mas η <;> rfl
  rw [q]; exact h
theorem i_tupW {ds : List D} (e : ds = xs.map enc) (hl' : Nat.ble ds.length 100000 = true) : Sm (List.map enc) ((if ds.length ≤ line then Res.ok (D.tup ds) else .stuck).bind items) (.ok xs) := by
  have hl : ds.length ≤ 100000 := Nat.le_of_ble_eq_true hl'
  rw [if_pos (le_line hl), e]; exact rfl
theorem rng_D {lo : Int} {n : Nat} : rangeD lo n = (rng lo n).map enc := by
  unfold rangeD rng
  rw [List.map_map]; rfl
theorem i_range1P {n : Int} (h : Sm enc (a η) (.ok n)) : Sm (List.map enc) (iRange1 a η) (irange n) := by
  have h' : a η = .ok (.int n) := h
  unfold iRange1
  rw [h', ev_bind]
  show Sm (List.map enc) (if -lim62 ≤ n ∧ n < lim62 then Res.ok (rangeD 0 n.toNat) else .stuck) (irange n)
  unfold irange
  split
  · rw [rng_D]; exact rfl
  · exact trivial
theorem i_range1E {r : Res Int} (h : Sm enc (a η) r) : Sm (List.map enc) (iRange1 a η) (r.bind irange) := by
  cases r with
  | ok x => exact i_range1P h
  | exc er => have h' : a η = .exc er := h; unfold iRange1; rw [h']; exact rfl
  | stuck => exact trivial
theorem i_range2P {m n : Int} (h : Sm enc (a η) (.ok m)) (g : Sm enc (b η) (.ok n)) : Sm (List.map enc) (iRange2 a b η) (irange2 m n) := by
  have h' : a η = .ok (.int m) := h
  have g' : b η = .ok (.int n) := g
  unfold iRange2
  rw [h', ev_bind, g', ev_bind]
  show Sm (List.map enc) (if (-lim62 ≤ m ∧ m < lim62) ∧ (-lim62 ≤ n ∧ n < lim62) then Res.ok (rangeD m (n - m).toNat) else .stuck) (irange2 m n)
  unfold irange2
  split
  · rw [rng_D]; exact rfl
  · exact trivial
theorem i_range2E {r s : Res Int} (h : Sm enc (a η) r) (g : Sm enc (b η) s) : Sm (List.map enc) (iRange2 a b η) (r.bind fun m => s.bind fun n => irange2 m n) := by
  cases r with
  | ok x =>
    cases s with
    | ok y => exact i_range2P h g
    | exc er =>
      have h' : a η = .ok (.int x) := h
      have g' : b η = .exc er := g
      unfold iRange2; rw [h', ev_bind, g']; exact rfl
    | stuck => exact trivial
  | exc er => have h' : a η = .exc er := h; unfold iRange2; rw [h']; exact rfl
  | stuck => exact trivial
theorem i_range3P {m n k : Int} (h : Sm enc (a η) (.ok m)) (g : Sm enc (b η) (.ok n)) (f : Sm enc (c η) (.ok k)) : Sm (List.map enc) (iRange3 a b c η) (irange3 m n k) := by
  have h' : a η = .ok (.int m) := h
  have g' : b η = .ok (.int n) := g
  have f' : c η = .ok (.int k) := f
  unfold iRange3
  rw [h', ev_bind, g', ev_bind, f', ev_bind]
  show Sm (List.map enc) (if rgOk m n k then Res.ok (rangeC m k (Builtin.Range.rangeSize m n k).toNat) else .stuck) (irange3 m n k)
  unfold irange3
  split
  · show Res.ok (rangeC m k _) = .ok ((rngC m k _).map enc)
    unfold rangeC rngC
    rw [List.map_map]; rfl
  · exact trivial
theorem enum_D : ∀ (k : Nat) (xs : List α), enumD k (xs.map enc) = (enumL k xs).map enc
  | _, [] => rfl
  | k, x :: xs => by
    show D.tup [.int (k : Int), enc x] :: enumD (k + 1) (xs.map enc) = _
    rw [enum_D (k + 1) xs]; rfl
theorem i_enumP (h : Sm enc (a η) (.ok xs)) : Sm (List.map enc) (iEnum a η) (.ok (enumL 0 xs)) := by
  have h' : a η = .ok (.lst (xs.map enc)) := h
  rw [ev_iEnum, h', ev_bind, ev_lstOf, ev_bind, enum_D]; exact rfl
theorem i_enumE (h : Sm enc (a η) r) : Sm (List.map enc) (iEnum a η) (r.bind fun xs => .ok (enumL 0 xs)) := by
  cases r with
  | ok x => exact i_enumP h
  | exc er => have h' : a η = .exc er := h; rw [ev_iEnum, h']; exact rfl
  | stuck => exact trivial
theorem zip_D : ∀ (xs : List α) (ys : List β), zipD (xs.map enc) (ys.map enc) = (xs.zip ys).map enc
  | [], ys => by cases ys <;> rfl
  | x :: xs, [] => rfl
  | x :: xs, y :: ys => by
    show D.tup [enc x, enc y] :: zipD (xs.map enc) (ys.map enc) = _
    rw [zip_D xs ys]; rfl
theorem i_zipP {ys : List β} (h : Sm enc (a η) (.ok xs)) (g : Sm enc (b η) (.ok ys)) : Sm (List.map enc) (iZip a b η) (.ok (xs.zip ys)) := by
  have h' : a η = .ok (.lst (xs.map enc)) := h
  have g' : b η = .ok (.lst (ys.map enc)) := g
  rw [ev_iZip, h', ev_bind, g', ev_bind, ev_lstOf, ev_bind, ev_lstOf, ev_bind, zip_D]; exact rfl
theorem i_zipE {s : Res (List β)} (h : Sm enc (a η) r) (g : Sm enc (b η) s) : Sm (List.map enc) (iZip a b η) (r.bind fun xs => s.bind fun ys => .ok (xs.zip ys)) := by
  cases r with
  | ok x =>
    cases s with
    | ok y => exact i_zipP h g
    | exc er =>
      have h' : a η = .ok (.lst (x.map enc)) := h
      have g' : b η = .exc er := g
      rw [ev_iZip, h', ev_bind, g']; exact rfl
    | stuck => exact trivial
  | exc er => have h' : a η = .exc er := h; rw [ev_iZip, h']; exact rfl
  | stuck => exact trivial
theorem i_revP (h : Sm enc (a η) (.ok xs)) : Sm (List.map enc) (iRev a η) (.ok xs.reverse) := by
  have h' : a η = .ok (.lst (xs.map enc)) := h
  rw [ev_iRev, h', ev_bind, ev_lstOf, ev_bind, ← List.map_reverse]; exact rfl
theorem i_revE (h : Sm enc (a η) r) : Sm (List.map enc) (iRev a η) (r.bind fun xs => .ok xs.reverse) := by
  cases r with
  | ok x => exact i_revP h
  | exc er => have h' : a η = .exc er := h; rw [ev_iRev, h']; exact rfl
  | stuck => exact trivial
end
/-! ### comprehensions -/
section
variable {α γ : Type} [Enc α] [Enc γ] {N : Nat} {η : Env} {L : En} {it : M (List D)} {b : Bd} {q : M Bool} {e : M D} {own : List Nat} {xs : List α} {L1 : α → En}
theorem comp_go {tq : α → Res Bool} {f : α → Res γ} {η : Env} (hb : ∀ x ∈ xs, ∃ η1, b (enc x) η = some η1 ∧ Sm id (q η1) (tq x) ∧ Sm enc (e η1) (f x)) : ∀ (ys : List γ), tFM tq f xs = .ok ys → ∀ acc : List D, acc.length + xs.length ≤ line → compGo b q e η (xs.map enc) acc = .ok (acc ++ ys.map enc) := by
  induction xs with
  | nil =>
    intro ys h acc hl
    cases h
    unfold compGo
    simp
  | cons x xs ih =>
    intro ys h acc hl
    obtain ⟨η1, e1, e2, e3⟩ := hb x (List.mem_cons_self ..)
    have ih' := ih (fun y hy => hb y (List.mem_cons_of_mem _ hy))
    unfold tFM at h
    rw [List.length_cons] at hl
    rw [List.map_cons]
    unfold compGo
    rw [e1]
    show (match q η1 with | .ok true => (match e η1 with | .ok d => if acc.length < line then compGo b q e η (xs.map enc) (acc ++ [d]) else .stuck | _ => .stuck) | .ok false => compGo b q e η (xs.map enc) acc | _ => .stuck) = _
    cases hq : tq x with
    | ok c =>
      rw [hq] at h e2
      have e2' : q η1 = .ok c := e2
      rw [e2']
      cases c with
      | false => exact ih' ys h acc (by omega)
      | true =>
        cases hf : f x with
        | ok y =>
          rw [hf] at e3
          have e3' : e η1 = .ok (enc y) := e3
          rw [e3']
          show (if acc.length < line then compGo b q e η (xs.map enc) (acc ++ [enc y]) else .stuck) = _
          rw [if_pos (by omega)]
          have h' : (match f x with | .ok y => (match tFM tq f xs with | .ok ys => Res.ok (y :: ys) | _ => .stuck) | _ => .stuck) = .ok ys := h
          rw [hf] at h'
          have h2 : (match tFM tq f xs with | .ok ys => Res.ok (y :: ys) | _ => .stuck) = .ok ys := h'
          cases ht : tFM tq f xs with
          | ok zs =>
            rw [ht] at h2
            have h3 : Res.ok (y :: zs) = .ok ys := h2
            cases h3
            rw [ih' zs ht (acc ++ [enc y]) (by rw [List.length_append, List.length_cons, List.length_nil]; omega)]
            simp
          | exc er => rw [ht] at h2; cases h2
          | stuck => rw [ht] at h2; cases h2
        | exc er =>
          have h' : (match f x with | .ok y => (match tFM tq f xs with | .ok ys => Res.ok (y :: ys) | _ => .stuck) | _ => .stuck) = .ok ys := h
          rw [hf] at h'; cases h'
        | stuck =>
          have h' : (match f x with | .ok y => (match tFM tq f xs with | .ok ys => Res.ok (y :: ys) | _ => .stuck) | _ => .stuck) = .ok ys := h
          rw [hf] at h'; cases h'
    | exc er =>
      rw [hq] at h
      cases h
    | stuck =>
      rw [hq] at h
      cases h
theorem tFM_ne {α γ : Type} {q : α → Res Bool} {f : α → Res γ} : ∀ (xs : List α) (er : Er), tFM q f xs ≠ .exc er
  | [], er => fun h => by cases h
  | x :: xs, er => fun h => by
    unfold tFM at h
    cases hq : q x with
    | ok c =>
      rw [hq] at h
      cases c with
      | false => exact tFM_ne xs er h
      | true =>
        have h' : (match f x with | .ok y => (match tFM q f xs with | .ok ys => Res.ok (y :: ys) | _ => .stuck) | _ => .stuck) = .exc er := h
        cases hf : f x with
        | ok y =>
          rw [hf] at h'
          have h2 : (match tFM q f xs with | .ok ys => Res.ok (y :: ys) | _ => .stuck) = .exc er := h'
          cases ht : tFM q f xs <;> rw [ht] at h2 <;> cases h2
        | exc e => rw [hf] at h'; cases h'
        | stuck => rw [hf] at h'; cases h'
    | exc e => rw [hq] at h; cases h
    | stuck => rw [hq] at h; cases h
theorem comp_sim {tq : α → Res Bool} {f : α → Res γ} (hl : η.length = N) (hη : Has η L) (hi : Sm (List.map enc) (it η) (.ok xs)) (ht : ∀ x, SimT N b (enc x) (kick L own) (L1 x))
    (hq : ∀ x η, η.length = N → Has η (L1 x) → Sm id (q η) (tq x)) (he : ∀ x η, η.length = N → Has η (L1 x) → Sm enc (e η) (f x)) : Sm enc (dComp it b q e own η) (cfmE tq f xs) := by
  have hi' : it η = .ok (xs.map enc) := hi
  unfold cfmE capL
  split
  · rename_i hline
    unfold dComp
    rw [hi', ev_bind]
    cases h : tFM tq f xs with
    | ok ys =>
      have z := comp_go (η := wipeE η own) (b := b) (q := q) (e := e) (xs := xs) (tq := tq) (f := f) (fun x _ => by
        obtain ⟨η1, e1, l1, a1⟩ := ht x (wipeE η own) (by rw [wipe_len]; exact hl) (hη.wipe own)
        exact ⟨η1, e1, hq x η1 l1 a1, he x η1 l1 a1⟩) ys h [] (by simpa using hline)
      rw [z]
      exact rfl
    | exc er => exact absurd h (tFM_ne xs er)
    | stuck => exact trivial
  · exact trivial
theorem tFM_map {α γ : Type} {g : α → γ} : ∀ xs : List α, tFM (fun _ => .ok true) (fun x => .ok (g x)) xs = .ok (xs.map g)
  | [] => rfl
  | x :: xs => by
    unfold tFM
    rw [tFM_map xs]; rfl
theorem tFM_fm {α γ : Type} {p : α → Bool} {g : α → γ} : ∀ xs : List α, tFM (fun x => .ok (p x)) (fun x => .ok (g x)) xs = .ok ((xs.filter p).map g)
  | [] => rfl
  | x :: xs => by
    unfold tFM
    rw [tFM_fm xs, List.filter_cons]
    cases p x <;> rfl
theorem compP {g : α → γ} (hl : η.length = N) (hη : Has η L) (hi : Sm (List.map enc) (it η) (.ok xs)) (ht : ∀ x, SimT N b (enc x) (kick L own) (L1 x)) (he : ∀ x η, η.length = N → Has η (L1 x) → Sm enc (e η) (.ok (g x))) : Sm enc (dComp it b qYes e own η) (cmap g xs) := by
  have z := comp_sim (q := qYes) (tq := fun _ => .ok true) hl hη hi ht (fun _ _ _ _ => rfl) he
  unfold cfmE at z
  rw [tFM_map] at z
  unfold cmap
  exact z
theorem compE {f : α → Res γ} (hl : η.length = N) (hη : Has η L) (hi : Sm (List.map enc) (it η) (.ok xs)) (ht : ∀ x, SimT N b (enc x) (kick L own) (L1 x)) (he : ∀ x η, η.length = N → Has η (L1 x) → Sm enc (e η) (f x)) : Sm enc (dComp it b qYes e own η) (cmapE f xs) := by
  have z := comp_sim (q := qYes) (tq := fun _ => .ok true) hl hη hi ht (fun _ _ _ _ => rfl) he
  unfold cfmE at z
  unfold cmapE
  exact z
theorem compQ {p : α → Bool} {g : α → γ} (hl : η.length = N) (hη : Has η L) (hi : Sm (List.map enc) (it η) (.ok xs)) (ht : ∀ x, SimT N b (enc x) (kick L own) (L1 x)) (hq : ∀ x η, η.length = N → Has η (L1 x) → Sm id (q η) (.ok (p x))) (he : ∀ x η, η.length = N → Has η (L1 x) → Sm enc (e η) (.ok (g x))) : Sm enc (dComp it b q e own η) (cfm p g xs) := by
  have z := comp_sim hl hη hi ht hq he
  unfold cfmE at z
  rw [tFM_fm] at z
  unfold cfm
  exact z
/-- the walked thing may fail -/
theorem compI {r : Res (List α)} {t : List α → Res (List γ)} (hi : Sm (List.map enc) (it η) r) (h : ∀ xs, Sm (List.map enc) (it η) (.ok xs) → Sm enc (dComp it b q e own η) (t xs)) : Sm enc (dComp it b q e own η) (r.bind t) := by
  cases r with
  | ok xs => exact h xs hi
  | exc er =>
    have h' : it η = .exc er := hi
    unfold dComp
    rw [h']; exact rfl
  | stuck => exact trivial
end
/-! slices -/
section
variable {α : Type} [Enc α] {η : Env} {a : M D} {lo hi : M (Option Int)} {xs : List α} {r : Res (List α)} {l h : Option Int}
theorem o_none : (oNone : M (Option Int)) η = .ok none := rfl
theorem o_some {i : Int} (h : Sm enc (a η) (.ok i)) : oSome a η = .ok (some i) := by
  have h' : a η = .ok (.int i) := h
  unfold oSome
  rw [h']; rfl
theorem u_slL (ha : Sm enc (a η) r) (hl : lo η = .ok l) (hh : hi η = .ok h) : Sm enc (dSlL a lo hi η) (r.bind fun xs => .ok (cutL xs l h)) := by
  rw [ev_slL]
  refine bE ha fun xs => ?_
  rw [hl, ev_bind, hh, ev_bind]
  exact l_slL
theorem u_slL' {e : α → D} {t : Res α} (h : Sm e ((a η).bind fun x => (lo η).bind fun l => (hi η).bind fun h => opSlL x l h) t) : Sm e (dSlL a lo hi η) t := h
theorem bO {ε β : Type} {e : β → ε} {k : Option Int → Res ε} {t : Res β} (h : Sm e (k none) t) : Sm e (((oNone : M (Option Int)) η).bind k) t := h
theorem bOP {ε β : Type} {e : β → ε} {k : Option Int → Res ε} {t : Res β} {i : Int} (ha : Sm enc (a η) (.ok i)) (h : Sm e (k (some i)) t) : Sm e ((oSome a η).bind k) t := by
  rw [o_some ha]; exact h
theorem bOE {ε β : Type} {e : β → ε} {k : Option Int → Res ε} {t : Int → Res β} {r : Res Int} (ha : Sm enc (a η) r) (h : ∀ i, Sm e (k (some i)) (t i)) : Sm e ((oSome a η).bind k) (r.bind t) := by
  cases r with
  | ok i => exact bOP ha (h i)
  | exc er => have h' : a η = .exc er := ha; unfold oSome; rw [h']; exact rfl
  | stuck => exact trivial
theorem u_slLP (ha : Sm enc (a η) (.ok xs)) (hl : lo η = .ok l) (hh : hi η = .ok h) : Sm enc (dSlL a lo hi η) (.ok (cutL xs l h)) := u_slL ha hl hh
end
end VT
/-! VTCls: typed instances, x[i] op= e. -/
namespace VT
open PySem hiding Env
open VL Enc
section
variable {α β : Type} {η : Env} {mo : M D} {mas : M (List D)} {c : Nat} {f : List D → Res D} [Enc α] [Enc β]
theorem u_meth {x : α} {t : Res β} {fs : List D} (ho : Sm enc (mo η) (.ok x)) (h : Sm enc ((mas η).bind fun as => f (enc x :: as)) t) (hx : enc x = .ins c fs := by rfl) : Sm enc (dMeth c f mo mas η) t := by
  have h' : mo η = .ok (enc x) := ho
  unfold dMeth
  rw [h', ev_bind]
  have e : isIns c (enc x) = .ok () := by rw [hx]; exact if_pos rfl
  rw [e, ev_bind]
  exact h
theorem u_methE {r : Res α} {t : α → Res β} {fs : α → List D} (ho : Sm enc (mo η) r) (h : ∀ x, Sm enc ((mas η).bind fun as => f (enc x :: as)) (t x)) (hx : ∀ x : α, enc x = .ins c (fs x) := by intro _; rfl) : Sm enc (dMeth c f mo mas η) (r.bind t) := by
  cases r with
  | ok x => exact u_meth ho (h x) (hx x)
  | exc er =>
    have h' : mo η = .exc er := ho
    unfold dMeth
    rw [h']; exact rfl
  | stuck => exact trivial
theorem u_mas {fl : α → List D} {t : Res α} (h : Sm fl ((mas η).bind Res.ok) t) : Sm fl (mas η) t := by
  have e : (mas η).bind Res.ok = mas η := by cases mas η <;> rfl
  rw [e] at h; exact h
end
section
variable {α β σ ρ : Type} [Enc ρ] [Enc α] {N : Nat} {X L : En} {Lb : β → En} {Ls : σ → En} {ms : List (Env → Fl)} {mas : M (List D)} {c : Nat}
theorem k_init {r : Res α} {k : α → TF β σ ρ} (fl : α → List D) (he : ∀ g : α, enc g = .ins c (fl g)) (hc : ∀ g : α, (fl g).length = (clsTab c).2.length := by intro _; rfl) (hi : 0 < N) (hX : Sub L X) (ha : ∀ η, η.length = N → Has η L → Sm fl (mas η) r) (h : ∀ x, SimK N X Lb Ls ms ((0, enc x) :: L) (k x)) : SimK N X Lb Ls (sInit c mas :: ms) L (onE r k) := fun η hl hη => by
  show Post N X Lb Ls (match onRes (mas η) η (fun ds => if ds.length = (clsTab c).2.length then .nx (η.set 0 (some (.ins c ds))) else .stuck) with | .nx η' => runK ms η' | r => r) (onE r k)
  refine onB_post (ha η hl hη) hl (hX η hη) fun x => ?_
  rw [if_pos (hc x), ← he x]
  exact h x _ (by rw [List.length_set]; exact hl) (hη.set 0 (by omega))
end
def tRunI {ρ : Type} (t : TF Unit ρ Unit) : Res ρ := match t with
  | .nx r => .ok r
  | .ex e => .exc e
  | _ => .stuck
theorem idx_lk1 {ds : List D} {i : Nat} {d : D} (h : lk (idx 1 ds) i = some d) : ∃ j, i = j + 1 ∧ ds[j]? = some d := by
  obtain ⟨h1, h2⟩ := idx_lk h
  exact ⟨i - 1, by omega, h2⟩
theorem fn_simI {ρ : Type} [Enc ρ] {n m : Nat} {body : Env → Fl} {ds : List D} {t : TF Unit ρ Unit} (hn : ds.length = n) (hm : n + 1 ≤ m) (h : SimK m [] (fun _ => []) (fun g : ρ => [(0, enc g)]) [body] (idx 1 ds) t) : Sm enc (mkInit n m body ds) (tRunI t) := by
  have z0 : Post m [] (fun _ => []) (fun g : ρ => [(0, enc g)]) (runK [body] (none :: (ds.map some ++ List.replicate (m - n - 1) none))) t := h _ (by simp; omega) fun i d hi => by
    obtain ⟨j, rfl, hj⟩ := idx_lk1 hi
    have hlt := (List.getElem?_eq_some_iff.mp hj).1
    rw [List.getElem?_cons_succ, List.getElem?_append_left (by simpa using hlt), List.getElem?_map, hj]
    rfl
  have z : Post m [] (fun _ => []) (fun g : ρ => [(0, enc g)]) (body (none :: (ds.map some ++ List.replicate (m - n - 1) none))) t := by
    have e : runK [body] (none :: (ds.map some ++ List.replicate (m - n - 1) none)) = body (none :: (ds.map some ++ List.replicate (m - n - 1) none)) := by
      show (match body (none :: (ds.map some ++ List.replicate (m - n - 1) none)) with | .nx η' => Fl.nx η' | r => r) = _
      cases body (none :: (ds.map some ++ List.replicate (m - n - 1) none)) <;> rfl
    rw [← e]; exact z0
  unfold mkInit
  rw [if_pos hn]
  cases t with
  | rt r => exact trivial
  | ex e =>
    obtain ⟨η, e, _⟩ := z
    rw [e]; exact rfl
  | nx s =>
    obtain ⟨η, e, _, hη⟩ := z
    rw [e]
    show Sm enc (match η[0]? with | some (some d) => Res.ok d | _ => .stuck) (.ok s)
    rw [hη 0 (enc s) rfl]
    exact rfl
  | bk s => exact trivial
  | ct s => exact trivial
  | stuck => exact trivial
/-! x[i] op= e -/
@[irreducible] def augI (f : Int → Int → Int) (xs : List Int) (ri ra : Res Int) : Res (List Int) := ri.bind fun i => (ix xs i).bind fun old => ra.bind fun v => setI xs i (f old v)
section
variable {β σ ρ : Type} [Enc ρ] {N : Nat} {X L : En} {Lb : β → En} {Ls : σ → En} {ms : List (Env → Fl)} {a b : M D} {k : Nat} {f : D → D → Res D}
theorem k_augS {g : Int → Int → Int} {xs : List Int} {ri ra : Res Int} {t : List Int → TF β σ ρ} (hk : k < N) (hX : Sub L X) (e : lk L k = some (enc xs)) (hf : ∀ x y : Int, f (.int x) (.int y) = .ok (.int (g x y))) (hb : ∀ η, η.length = N → Has η L → Sm enc (b η) ri) (ha : ∀ η, η.length = N → Has η L → Sm enc (a η) ra) (h : ∀ ys, SimK N X Lb Ls ms ((k, enc ys) :: L) (t ys)) : SimK N X Lb Ls (sAugS k b f a :: ms) L (onE (augI g xs ri ra) t) := fun η hl hη => by
  have z := lstAt_has (ys := xs.map enc) hη e
  have q1 := hb η hl hη
  have q2 := ha η hl hη
  unfold augI
  show Post N X Lb Ls (match onRes (lstAt η k) η (fun xs => onRes (b η) η fun y => match y with
    | .int z => (match atD xs z with
      | some old => onRes ((a η).bind fun v => f old v) η fun d => match setD xs z d with | some ys => .nx (η.set k (some (.lst ys))) | none => .stuck
      | none => .stuck)
    | _ => .stuck) with | .nx η' => runK ms η' | r => r) _
  rw [z, ev_on]
  cases ri with
  | stuck => exact trivial
  | exc er => have q1' : b η = .exc er := q1; rw [q1']; exact ⟨η, rfl, hl, hX η hη⟩
  | ok i =>
    have q1' : b η = .ok (.int i) := q1
    rw [q1', ev_on, ev_bind]
    show Post N X Lb Ls (match (match atD (xs.map enc) i with
      | some old => onRes ((a η).bind fun v => f old v) η fun d => match setD (xs.map enc) i d with | some ys => Fl.nx (η.set k (some (.lst ys))) | none => .stuck
      | none => .stuck) with | .nx η' => runK ms η' | r => r) _
    unfold ix atD atL
    rw [List.length_map]
    cases hx : ixOf xs.length i with
    | none => exact trivial
    | some j =>
      simp only [Option.bind_some, List.getElem?_map]
      cases hj : xs[j]? with
      | none => exact trivial
      | some old =>
        simp only [Option.map_some, ev_bind]
        cases ra with
        | stuck => exact trivial
        | exc er => have q2' : a η = .exc er := q2; rw [q2']; exact ⟨η, rfl, hl, hX η hη⟩
        | ok v =>
          have q2' : a η = .ok (.int v) := q2
          have q3 : f (enc old) (.int v) = .ok (.int (g old v)) := hf old v
          rw [q2', ev_bind, q3, ev_on, ev_bind]
          unfold setI setD
          rw [List.length_map, hx]
          have y := h (xs.set j (g old v)) (η.set k (some (enc (xs.set j (g old v))))) (by rw [List.length_set]; exact hl) (hη.set k (by omega))
          have e2 : (enc (xs.set j (g old v)) : D) = .lst ((xs.map enc).set j (enc (g old v))) := by
            show D.lst ((xs.set j (g old v)).map enc) = _
            rw [List.map_set]
          rw [e2] at y
          exact y
end
end VT
/-! VTPick: typed: a def picked from a list of two. -/
namespace VT
open PySem hiding Env
open VL Enc
section
variable {α β : Type} [Enc α] [Enc β] {η : VL.Env} {mi : M D} {mas : M (List D)} {f g : List D → Res D}
def pick2 {γ : Type} (i : Int) (a b : Res γ) : Res γ := if i = 0 then a else if i = 1 then b else .stuck
theorem u_pick {i : Int} {t1 t2 : Res β} (hi : Sm enc (mi η) (.ok i)) (h1 : Sm enc ((mas η).bind f) t1) (h2 : Sm enc ((mas η).bind g) t2) : Sm enc (dPick2 f g mi mas η) (pick2 i t1 t2) := by
  have h' : mi η = .ok (.int i) := hi
  unfold dPick2 pick2
  rw [h', ev_bind]
  by_cases h0 : i = 0
  · subst h0; exact h1
  · by_cases h1' : i = 1
    · subst h1'; exact h2
    · simp only [h0, h1', if_false]; exact trivial
theorem u_pickI {i : Int} {t1 t2 : Res β} (h1 : Sm enc ((mas η).bind f) t1) (h2 : Sm enc ((mas η).bind g) t2) : Sm enc (dPick2 f g (dLit (.int i)) mas η) (pick2 i t1 t2) := u_pick rfl h1 h2
theorem u_pickE {r : Res Int} {t : Int → Res β} (hi : Sm enc (mi η) r) (h : ∀ i, Sm enc (dPick2 f g (dLit (.int i)) mas η) (t i)) : Sm enc (dPick2 f g mi mas η) (r.bind t) := by
  cases r with
  | ok i =>
    have h' : mi η = .ok (.int i) := hi
    have e : dPick2 f g mi mas η = dPick2 f g (dLit (.int i)) mas η := by
      unfold dPick2
      rw [h']
      rfl
    rw [e]
    exact h i
  | exc er =>
    have h' : mi η = .exc er := hi
    show dPick2 f g mi mas η = .exc er
    unfold dPick2
    rw [h']
    rfl
  | stuck => exact trivial
end
/-! a loop's name behind the loop -/
section
variable {α β' σ ρ : Type} {N : Nat} {X : En} {ms : List (VL.Env → Fl)} {L : En} {i : Nat}
def optL [Enc α] (i : Nat) : Option α → En
  | none => []
  | some x => [(i, enc x)]
def TF.unw (o : Option α) (k : α → TF β' σ ρ) : TF β' σ ρ := match o with
  | none => .stuck
  | some x => k x
theorem k_unw [Enc α] [Enc ρ] {β τ : Type} {Lb : β → En} {Ls : τ → En} {o : Option α} {k : α → TF β τ ρ} (h : ∀ x, SimK N X Lb Ls ms (L ++ [(i, enc x)]) (k x)) : SimK N X Lb Ls ms (L ++ optL i o) (TF.unw o k) := by
  cases o with
  | none => exact fun η hl hη => trivial
  | some x => exact h x
end
end VT
/-! VTLib: reckoning with typed text. -/
namespace VT
open PySem hiding Env
open VL Enc
section
variable {α β γ σ τ ρ : Type}
@[simp] theorem rb_ok {a : α} {k : α → Res β} : (Res.ok a).bind k = k a := nrf rfl
@[simp] theorem rb_ex {e : Er} {k : α → Res β} : (Res.exc e : Res α).bind k = .exc e := nrf rfl
@[simp] theorem rb_st {k : α → Res β} : (Res.stuck : Res α).bind k = .stuck := nrf rfl
@[simp] theorem rb_id {r : Res α} : (r.bind fun v => .ok v) = r := by cases r <;> rfl
@[simp] theorem on_ok {a : α} {k : α → TF β σ ρ} : onE (.ok a) k = k a := nrf rfl
@[simp] theorem on_ex {e : Er} {k : α → TF β σ ρ} : onE (.exc e) k = .ex e := nrf rfl
@[simp] theorem on_st {k : α → TF β σ ρ} : onE .stuck k = .stuck := nrf rfl
@[simp] theorem tb_nx {s : σ} {k : σ → TF β τ ρ} : (TF.nx s : TF β σ ρ).bind k = k s := nrf rfl
@[simp] theorem tb_rt {r : ρ} {k : σ → TF β τ ρ} : (TF.rt r : TF β σ ρ).bind k = .rt r := nrf rfl
@[simp] theorem tb_bk {b : β} {k : σ → TF β τ ρ} : (TF.bk b : TF β σ ρ).bind k = .bk b := nrf rfl
@[simp] theorem tb_ct {b : β} {k : σ → TF β τ ρ} : (TF.ct b : TF β σ ρ).bind k = .ct b := nrf rfl
@[simp] theorem tb_ex {e : Er} {k : σ → TF β τ ρ} : (TF.ex e : TF β σ ρ).bind k = .ex e := nrf rfl
@[simp] theorem tb_st {k : σ → TF β τ ρ} : (TF.stuck : TF β σ ρ).bind k = .stuck := nrf rfl
@[simp] theorem tb_ite {c : Prop} [Decidable c] {a b : TF β σ ρ} {k : σ → TF β τ ρ} : (if c then a else b).bind k = if c then a.bind k else b.bind k := by split <;> rfl
@[simp] theorem on_ite {c : Prop} [Decidable c] {a b : Res α} {k : α → TF β σ ρ} : onE (if c then a else b) k = if c then onE a k else onE b k := by split <;> rfl
@[simp] theorem rb_ite {c : Prop} [Decidable c] {a b : Res α} {k : α → Res β} : (if c then a else b).bind k = if c then a.bind k else b.bind k := by split <;> rfl
@[simp] theorem rn_rt {r : ρ} : tRun (.rt r) = .ok r := nrf rfl
@[simp] theorem rn_ex {e : Er} : tRun (.ex e : TF Unit Unit ρ) = .exc e := nrf rfl
@[simp] theorem rn_ite {c : Prop} [Decidable c] {a b : TF Unit Unit ρ} : tRun (if c then a else b) = if c then tRun a else tRun b := by split <;> rfl
@[simp] theorem rf_rt {r r0 : ρ} : tRunF r0 (.rt r) = .ok r := nrf rfl
@[simp] theorem rf_nx {u : Unit} {r0 : ρ} : tRunF r0 (.nx u) = .ok r0 := nrf rfl
@[simp] theorem rf_ex {e : Er} {r0 : ρ} : tRunF r0 (.ex e : TF Unit Unit ρ) = .exc e := nrf rfl
@[simp] theorem rf_ite {c : Prop} [Decidable c] {r0 : ρ} {a b : TF Unit Unit ρ} : tRunF r0 (if c then a else b) = if c then tRunF r0 a else tRunF r0 b := by split <;> rfl
@[simp] theorem ri_nx {r : ρ} : tRunI (.nx r) = .ok r := nrf rfl
@[simp] theorem ri_ex {e : Er} : tRunI (.ex e : TF Unit ρ Unit) = .exc e := nrf rfl
@[simp] theorem ri_ite {c : Prop} [Decidable c] {a b : TF Unit ρ Unit} : tRunI (if c then a else b) = if c then tRunI a else tRunI b := by split <;> rfl
@[simp] theorem tt_rt {r : ρ} {c : Er} {h : Er → TF β σ ρ} : tTry (.rt r) c h = .rt r := nrf rfl
@[simp] theorem tt_nx {s : σ} {c : Er} {h : Er → TF β σ ρ} : tTry (.nx s) c h = .nx s := nrf rfl
theorem tt_ex {e c : Er} {h : Er → TF β σ ρ} {t : TF β σ ρ} (h1 : e.own = true) (h2 : e.sub c = true) (h3 : h e = t) (h4 : ∀ e, t ≠ .ex e) : tTry (.ex e) c h = t := by
  subst h3
  show (if e.own then (if e.sub c then (match h e with | .ex _ => .stuck | r => r) else .ex e) else .stuck) = h e
  rw [h1, if_pos rfl, h2, if_pos rfl]
  cases hh : h e <;> first | rfl | exact absurd hh (h4 _)
theorem tt_range {h : Er → TF β σ ρ} : tTry (.ex .range) .purse h = match h .range with | .ex _ => .stuck | r => r := nrf rfl
theorem tt_range2 {h : Er → TF β σ ρ} : tTry (.ex .range) .range h = match h .range with | .ex _ => .stuck | r => r := nrf rfl
theorem is_rr : isEr .range .range = .ok true := rfl
theorem is_rp : isEr .range .purse = .ok true := rfl
theorem is_rm : isEr .range .malformed = .ok false := rfl
@[simp] theorem ra_ok {a : Bool} {b : Res Bool} : rand (.ok a) b = if a then b else .ok false := nrf rfl
@[simp] theorem ro_ok {a : Bool} {b : Res Bool} : ror (.ok a) b = if a then .ok true else b := nrf rfl
@[simp] theorem ra_ok2 {a b : Bool} : rand (.ok a) (.ok b) = .ok (a && b) := by cases a <;> rfl
@[simp] theorem ro_ok2 {a b : Bool} : ror (.ok a) (.ok b) = .ok (a || b) := by cases a <;> rfl
@[simp] theorem tf_nil {s : σ} {f : α → σ → TF σ σ ρ} : (tFor [] s f : TF β σ ρ) = .nx s := nrf rfl
theorem tf_cons {x : α} {xs : List α} {s : σ} {f : α → σ → TF σ σ ρ} : (tFor (x :: xs) s f : TF β σ ρ) = (match f x s with
    | .nx s' => tFor xs s' f
    | .ct s' => tFor xs s' f
    | .bk s' => .nx s'
    | .rt r => .rt r
    | .ex e => .ex e
    | .stuck => .stuck) := nrf rfl
theorem tf_nx {x : α} {xs : List α} {s s' : σ} {f : α → σ → TF σ σ ρ} (h : f x s = .nx s') : (tFor (x :: xs) s f : TF β σ ρ) = tFor xs s' f := by rw [tf_cons, h]
theorem tf_ct {x : α} {xs : List α} {s s' : σ} {f : α → σ → TF σ σ ρ} (h : f x s = .ct s') : (tFor (x :: xs) s f : TF β σ ρ) = tFor xs s' f := by rw [tf_cons, h]
/-- a loop by the number of its turn -/
theorem tFor_go {P : Nat → σ → Prop} {f : α → σ → TF σ σ ρ} : ∀ (xs : List α) (k : Nat) (s : σ), P k s → (∀ i x s, xs[i]? = some x → P (k + i) s → ∃ s', (f x s = .nx s' ∨ f x s = .ct s') ∧ P (k + i + 1) s') → ∃ s', (tFor xs s f : TF β σ ρ) = .nx s' ∧ P (k + xs.length) s'
  | [], k, s, h, _ => ⟨s, rfl, h⟩
  | x :: xs, k, s, h, st => by
    obtain ⟨s1, e1, h1⟩ := st 0 x s rfl h
    obtain ⟨s2, e2, h2⟩ := tFor_go xs (k + 1) s1 h1 fun i y t hy ht => by
      have := st (i + 1) y t (by simpa using hy) (by rw [show k + (i + 1) = k + 1 + i by omega]; exact ht)
      rw [show k + (i + 1) + 1 = k + 1 + i + 1 by omega] at this
      exact this
    refine ⟨s2, ?_, by rw [List.length_cons, show k + (xs.length + 1) = k + 1 + xs.length by omega]; exact h2⟩
    rw [tf_cons]
    rcases e1 with e1 | e1 <;> (rw [e1]; exact e2)
theorem tFor_idx (P : Nat → σ → Prop) {f : α → σ → TF σ σ ρ} {xs : List α} {s : σ} (h : P 0 s) (st : ∀ i x s, xs[i]? = some x → P i s → ∃ s', (f x s = .nx s' ∨ f x s = .ct s') ∧ P (i + 1) s') : ∃ s', (tFor xs s f : TF β σ ρ) = .nx s' ∧ P xs.length s' := by
  have z := tFor_go (β := β) (P := P) (f := f) xs 0 s h fun i x s hx hp => by
    rw [Nat.zero_add] at hp ⊢
    exact st i x s hx hp
  rw [Nat.zero_add] at z
  exact z
/-- .. whose states are told -/
theorem tFor_st (S : Nat → σ) {f : α → σ → TF σ σ ρ} {xs : List α} {s : σ} (h : s = S 0) (st : ∀ i x, xs[i]? = some x → (f x (S i) = .nx (S (i + 1)) ∨ f x (S i) = .ct (S (i + 1)))) : (tFor xs s f : TF β σ ρ) = .nx (S xs.length) := by
  obtain ⟨s', e, h2⟩ := tFor_idx (β := β) (fun i s => s = S i) (f := f) (xs := xs) h fun i x s hx hp => by
    subst hp
    exact ⟨_, st i x hx, rfl⟩
  rw [e, h2]
/-- a loop, and what comes of it -/
theorem for_idx (Q : TF β τ ρ → Prop) (P : Nat → σ → Prop) {f : α → σ → TF σ σ ρ} {xs : List α} {s : σ} {k : σ → TF β τ ρ} (h : P 0 s) (st : ∀ i x s, xs[i]? = some x → P i s → ∃ s', (f x s = .nx s' ∨ f x s = .ct s') ∧ P (i + 1) s') (fin : ∀ s, P xs.length s → Q (k s)) : Q ((tFor xs s f).bind k) := by
  obtain ⟨s', e, hs⟩ := tFor_idx (β := β) P h st
  rw [e]
  exact fin s' hs
theorem for_keep (Q : TF β τ ρ → Prop) (I : σ → Prop) {f : α → σ → TF σ σ ρ} {xs : List α} {s : σ} {k : σ → TF β τ ρ} (h : I s) (st : ∀ x ∈ xs, ∀ s, I s → ∃ s', (f x s = .nx s' ∨ f x s = .ct s') ∧ I s') (fin : ∀ s, I s → Q (k s)) : Q ((tFor xs s f).bind k) := by
  have key := tFor_idx (β := β) (fun _ s => I s) (f := f) (xs := xs) h fun i x s hx hs => st x (List.mem_of_getElem? hx) s hs
  obtain ⟨s', e, hs⟩ := key
  rw [e]
  exact fin s' hs
/-- a loop that checks alone -/
theorem tFor_all {f : α → Unit → TF Unit Unit ρ} : ∀ {xs : List α}, (∀ x ∈ xs, f x () = .nx () ∨ f x () = .ct ()) → (tFor xs () f : TF β Unit ρ) = .nx ()
  | [], _ => rfl
  | x :: xs, h => by
    rw [tf_cons]
    rcases h x (List.mem_cons_self ..) with e | e <;> (rw [e]; exact tFor_all fun y hy => h y (List.mem_cons_of_mem _ hy))
theorem tFor_keep {I : σ → Prop} {f : α → σ → TF σ σ ρ} : ∀ {xs : List α} {s : σ}, I s → (∀ x ∈ xs, ∀ s, I s → ∃ s', (f x s = .nx s' ∨ f x s = .ct s') ∧ I s') → ∃ s', (tFor xs s f : TF β σ ρ) = .nx s' ∧ I s'
  | [], s, h, _ => ⟨s, rfl, h⟩
  | x :: xs, s, h, st => by
    obtain ⟨s1, e1, h1⟩ := st x (List.mem_cons_self ..) s h
    obtain ⟨s2, e2, h2⟩ := tFor_keep (xs := xs) h1 fun y hy => st y (List.mem_cons_of_mem _ hy)
    refine ⟨s2, ?_, h2⟩
    rw [tf_cons]
    rcases e1 with e1 | e1 <;> (rw [e1]; exact e2)
end
/-! operators that are not stuck -/
theorem imul_ok {x y : Int} (h : mulOk x y = true) : imul x y = .ok (x * y) := by unfold imul; exact if_pos h
theorem idiv_ok {x y : Int} (h : divOk x y = true) : idiv x y = .ok (x / y) := by unfold idiv; exact if_pos h
theorem imod_ok {x y : Int} (h : 0 < y) : imod x y = .ok (x % y) := by unfold imod; exact if_pos h
theorem ipow_ok {x y : Int} (h : powOk x y = true) : ipow x y = .ok (x ^ y.toNat) := by unfold ipow; exact if_pos h
theorem ishl_ok {x y : Int} (h : shlOk x y = true) : ishl x y = .ok (x * 2 ^ y.toNat) := by unfold ishl; exact if_pos h
theorem ishr_ok {x y : Int} (h : 0 ≤ y) : ishr x y = .ok (x / 2 ^ y.toNat) := by unfold ishr; exact if_pos h
section
variable {α β γ : Type}
theorem lcat_ok {xs ys : List α} (h : xs.length + ys.length ≤ 100000) : lcat xs ys = .ok (xs ++ ys) := by unfold lcat; exact if_pos (le_line h)
theorem lapp_ok {xs : List α} {x : α} (h : xs.length < 100000) : lapp xs x = .ok (xs ++ [x]) := by unfold lapp; exact if_pos (lt_line (by omega))
theorem lrep_ok {xs : List α} {k : Nat} (h1 : k ≤ 100000) (h : xs.length * k ≤ 100000) : lrep xs (k : Int) = .ok (List.replicate k xs).flatten := by
  unfold lrep
  rw [if_pos ⟨by omega, by omega, le_line (by rw [Int.toNat_natCast]; exact h)⟩, Int.toNat_natCast]
theorem lrep1_ok {x : α} {k : Nat} (h1 : k ≤ 100000) : lrep [x] (k : Int) = .ok (List.replicate k x) := by
  rw [lrep_ok h1 (by simp; exact h1)]
  congr 1
  induction k with
  | zero => rfl
  | succ k ih => rw [List.replicate_succ, List.flatten_cons, ih (by omega), List.replicate_succ]; rfl
theorem ix_ok {xs : List α} {i : Nat} {x : α} (h : xs[i]? = some x) : ix xs (i : Int) = .ok x := by
  unfold ix atL
  rw [ix_nat (List.getElem?_eq_some_iff.mp h).1, Option.bind_some, h]
theorem ix_int {xs : List α} {i : Int} {x : α} (h0 : 0 ≤ i) (h : xs[i.toNat]? = some x) : ix xs i = .ok x := by
  have e : i = ((i.toNat : Nat) : Int) := (Int.toNat_of_nonneg h0).symm
  rw [e]; exact ix_ok h
@[simp] theorem ix_0 {x : α} {xs : List α} : ix (x :: xs) 0 = .ok x := ix_ok (i := 0) rfl
@[simp] theorem ix_1 {x y : α} {xs : List α} : ix (x :: y :: xs) 1 = .ok y := ix_ok (i := 1) rfl
@[simp] theorem ix_2 {x y z : α} {xs : List α} : ix (x :: y :: z :: xs) 2 = .ok z := ix_ok (i := 2) rfl
@[simp] theorem ix_3 {x y z w : α} {xs : List α} : ix (x :: y :: z :: w :: xs) 3 = .ok w := ix_ok (i := 3) rfl
theorem setI_ok {xs : List α} {i : Nat} {x : α} (h : i < xs.length) : setI xs (i : Int) x = .ok (xs.set i x) := by
  unfold setI
  rw [ix_nat h]
theorem setI_int {xs : List α} {i : Int} {x : α} (h0 : 0 ≤ i) (h : i < xs.length) : setI xs i x = .ok (xs.set i.toNat x) := by
  have e : i = ((i.toNat : Nat) : Int) := (Int.toNat_of_nonneg h0).symm
  rw [e, setI_ok (by omega)]
  rfl
theorem capL_ok {xs : List α} {r : Res (List γ)} (h : xs.length ≤ 100000) : capL xs r = r := by unfold capL; exact if_pos (le_line h)
theorem cmap_ok {g : α → γ} {xs : List α} (h : xs.length ≤ 100000) : cmap g xs = .ok (xs.map g) := by unfold cmap; exact capL_ok h
theorem cfm_ok {p : α → Bool} {g : α → γ} {xs : List α} (h : xs.length ≤ 100000) : cfm p g xs = .ok ((xs.filter p).map g) := by unfold cfm; exact capL_ok h
theorem tFM_ok {q : α → Res Bool} {f : α → Res γ} {p : α → Bool} {g : α → γ} : ∀ {xs : List α}, (∀ x ∈ xs, q x = .ok (p x)) → (∀ x ∈ xs, p x = true → f x = .ok (g x)) → tFM q f xs = .ok ((xs.filter p).map g)
  | [], _, _ => rfl
  | x :: xs, h1, h2 => by
    unfold tFM
    rw [h1 x (List.mem_cons_self ..), tFM_ok (fun y hy => h1 y (List.mem_cons_of_mem _ hy)) (fun y hy => h2 y (List.mem_cons_of_mem _ hy)), List.filter_cons]
    cases hp : p x with
    | false => rfl
    | true =>
      show (match f x with | .ok y => Res.ok (y :: (xs.filter p).map g) | _ => .stuck) = _
      rw [h2 x (List.mem_cons_self ..) hp]; rfl
theorem cmapE_ok {f : α → Res γ} {g : α → γ} {xs : List α} (h : xs.length ≤ 100000) (hf : ∀ x ∈ xs, f x = .ok (g x)) : cmapE f xs = .ok (xs.map g) := by
  unfold cmapE
  rw [capL_ok h, tFM_ok (p := fun _ => true) (g := g) (fun _ _ => rfl) (fun x hx _ => hf x hx), List.filter_eq_self.mpr (fun _ _ => rfl)]
theorem cfmE_ok {q : α → Res Bool} {f : α → Res γ} {p : α → Bool} {g : α → γ} {xs : List α} (h : xs.length ≤ 100000) (hq : ∀ x ∈ xs, q x = .ok (p x)) (hf : ∀ x ∈ xs, p x = true → f x = .ok (g x)) : cfmE q f xs = .ok ((xs.filter p).map g) := by
  unfold cfmE
  rw [capL_ok h, tFM_ok hq hf]
theorem irange_ok {n : Nat} (h : n ≤ 1000000000) : irange (n : Int) = .ok (rng 0 n) := by
  unfold irange
  rw [if_pos (lim_in h), Int.toNat_natCast]
theorem irange_int {n : Int} (h0 : 0 ≤ n) (h : n ≤ 1000000000) : irange n = .ok (rng 0 n.toNat) := by
  have e : n = ((n.toNat : Nat) : Int) := (Int.toNat_of_nonneg h0).symm
  rw [e, irange_ok (by omega)]
  rfl
theorem lim62_eq : lim62 = 4611686018427387904 := rfl
theorem irange2_ok {i j : Int} (h1 : -1000000000 ≤ i) (h2 : i ≤ 1000000000) (h3 : -1000000000 ≤ j) (h4 : j ≤ 1000000000) : irange2 i j = .ok (rng i (j - i).toNat) := by
  unfold irange2
  rw [lim62_eq, if_pos (by omega)]
@[simp] theorem rng_len {lo : Int} {n : Nat} : (rng lo n).length = n := by simp [rng]
theorem rng_get {lo : Int} {n i : Nat} (h : i < n) : (rng lo n)[i]? = some (lo + (i : Int)) := by simp [rng, h]
theorem rng_some {lo x : Int} {n i : Nat} (h : (rng lo n)[i]? = some x) : i < n ∧ x = lo + (i : Int) := by
  have hi := (List.getElem?_eq_some_iff.mp h).1
  rw [rng_len] at hi
  rw [rng_get hi] at h
  exact ⟨hi, (Option.some.inj h).symm⟩
theorem rng_mem {lo x : Int} {n : Nat} : x ∈ rng lo n ↔ lo ≤ x ∧ x < lo + n := by
  unfold rng
  rw [List.mem_map]
  constructor
  · rintro ⟨k, hk, rfl⟩
    have := List.mem_range.mp hk
    omega
  · intro h
    exact ⟨(x - lo).toNat, List.mem_range.mpr (by omega), by omega⟩
theorem rng_zero {lo : Int} : rng lo 0 = [] := rfl
theorem rng_succ {lo : Int} {n : Nat} : rng lo (n + 1) = lo :: rng (lo + 1) n := by
  unfold rng
  rw [List.range_succ_eq_map, List.map_cons, List.map_map, List.cons.injEq]
  refine ⟨by simp, List.map_congr_left fun k _ => ?_⟩
  show lo + ((k + 1 : Nat) : Int) = lo + 1 + (k : Int)
  omega
@[simp] theorem enum_len {k : Nat} {xs : List α} : (enumL k xs).length = xs.length := by
  induction xs generalizing k with
  | nil => rfl
  | cons x xs ih => show (enumL (k + 1) xs).length + 1 = _; rw [ih]; rfl
theorem enum_some {xs : List α} : ∀ {k i : Nat} {p : Int × α}, (enumL k xs)[i]? = some p → xs[i]? = some p.2 ∧ p.1 = ((k + i : Nat) : Int) := by
  induction xs with
  | nil => intro k i p h; cases i <;> cases h
  | cons x xs ih =>
    intro k i p h
    cases i with
    | zero =>
      have h' : some ((k : Int), x) = some p := h
      cases h'
      exact ⟨rfl, rfl⟩
    | succ i =>
      have h' : (enumL (k + 1) xs)[i]? = some p := h
      obtain ⟨h1, h2⟩ := ih h'
      exact ⟨h1, by rw [h2]; congr 1; omega⟩
theorem zip_some {xs : List α} {ys : List β} {i : Nat} {p : α × β} (h : (xs.zip ys)[i]? = some p) : xs[i]? = some p.1 ∧ ys[i]? = some p.2 := List.getElem?_zip_eq_some.mp h
end
/-! sizes -/
theorem Sz_num {k : Nat} : Sz (k.log2 + 1) (@OfNat.ofNat Int k instOfNat) := by
  show (k : Int).natAbs < 2 ^ (k.log2 + 1)
  rw [Int.natAbs_natCast]
  exact Nat.lt_log2_self
theorem Sz_nat {k n : Nat} (h : k < 2 ^ n) : Sz n (k : Int) := by
  show (k : Int).natAbs < _
  rw [Int.natAbs_natCast]; exact h
theorem Sz_iabs {n : Nat} {x : Int} (h : Sz n x) : Sz n (iabs x) := by
  unfold iabs
  split
  · exact h.neg
  · exact h
end VT
/-! VRing: sums; polynomials where x to the power n is -1. -/
namespace VT
open PySem hiding Env
open VL Enc
/-! ### sums -/
def sm : Nat → (Nat → Int) → Int
  | 0, _ => 0
  | n + 1, f => sm n f + f n
theorem sm_congr {f g : Nat → Int} : ∀ {n : Nat}, (∀ i, i < n → f i = g i) → sm n f = sm n g
  | 0, _ => rfl
  | n + 1, h => by
    show sm n f + f n = sm n g + g n
    rw [sm_congr fun i hi => h i (by omega), h n (by omega)]
theorem sm_zero {f : Nat → Int} : ∀ {n : Nat}, (∀ i, i < n → f i = 0) → sm n f = 0
  | 0, _ => rfl
  | n + 1, h => by
    show sm n f + f n = 0
    rw [sm_zero fun i hi => h i (by omega), h n (by omega)]; rfl
theorem sm_add (f g : Nat → Int) : ∀ n : Nat, sm n (fun i => f i + g i) = sm n f + sm n g
  | 0 => rfl
  | n + 1 => by
    show sm n (fun i => f i + g i) + (f n + g n) = sm n f + f n + (sm n g + g n)
    rw [sm_add f g n]; omega
theorem sm_sub (f g : Nat → Int) : ∀ n : Nat, sm n (fun i => f i - g i) = sm n f - sm n g
  | 0 => rfl
  | n + 1 => by
    show sm n (fun i => f i - g i) + (f n - g n) = sm n f + f n - (sm n g + g n)
    rw [sm_sub f g n]; omega
theorem sm_neg (f : Nat → Int) : ∀ n : Nat, sm n (fun i => -f i) = -sm n f
  | 0 => rfl
  | n + 1 => by
    show sm n (fun i => -f i) + -f n = -(sm n f + f n)
    rw [sm_neg f n]; omega
theorem sm_mul (c : Int) (f : Nat → Int) : ∀ n : Nat, sm n (fun i => c * f i) = c * sm n f
  | 0 => (Int.mul_zero c).symm
  | n + 1 => by
    show sm n (fun i => c * f i) + c * f n = c * (sm n f + f n)
    rw [sm_mul c f n, Int.mul_add]
theorem sm_mulr (c : Int) (f : Nat → Int) (n : Nat) : sm n (fun i => f i * c) = sm n f * c := by
  rw [Int.mul_comm, ← sm_mul]
  exact sm_congr fun i _ => Int.mul_comm _ _
theorem sm_comm (f : Nat → Nat → Int) (m : Nat) : ∀ n : Nat, sm n (fun i => sm m (fun j => f i j)) = sm m (fun j => sm n (fun i => f i j))
  | 0 => (sm_zero fun _ _ => rfl).symm
  | n + 1 => by
    show sm n (fun i => sm m (fun j => f i j)) + sm m (fun j => f n j) = sm m (fun j => sm n (fun i => f i j) + f n j)
    rw [sm_comm f m n, sm_add]
theorem sm_one {f : Nat → Int} {k : Nat} : ∀ {n : Nat}, k < n → (∀ i, i < n → i ≠ k → f i = 0) → sm n f = f k
  | 0, h, _ => absurd h (by omega)
  | n + 1, h, z => by
    show sm n f + f n = f k
    by_cases hk : k = n
    · subst hk
      rw [sm_zero fun i hi => z i (by omega) (by omega), Int.zero_add]
    · rw [sm_one (by omega) fun i hi ne => z i (by omega) ne, z n (by omega) (by omega), Int.add_zero]
theorem sm_ext {f g : Nat → Int} (h : ∀ i, f i = g i) (n : Nat) : sm n f = sm n g := sm_congr fun i _ => h i
/-- sums in another order -/
theorem sm_perm {n : Nat} (p q : Nat → Nat) (hp : ∀ i, i < n → p i < n) (hq : ∀ j, j < n → q j < n ∧ p (q j) = j) (hi : ∀ i j, i < n → j < n → p i = p j → i = j) (f : Nat → Int) : sm n (fun i => f (p i)) = sm n f := by
  have e1 : sm n (fun i => f (p i)) = sm n (fun i => sm n (fun j => if p i = j then f j else 0)) := sm_congr fun i h => by
    rw [sm_one (hp i h) fun j _ hj => if_neg (Ne.symm hj), if_pos rfl]
  have e2 : sm n f = sm n (fun j => sm n (fun i => if p i = j then f j else 0)) := sm_congr fun j h => by
    obtain ⟨h1, h2⟩ := hq j h
    rw [sm_one h1 fun i hi' ne => if_neg fun e => ne (hi i (q j) hi' h1 (by rw [e, h2])), if_pos h2]
  rw [e1, e2, sm_comm]
theorem sm_pos {f : Nat → Int} : ∀ {n : Nat}, (∀ i, i < n → 0 ≤ f i) → 0 ≤ sm n f
  | 0, _ => Int.le_refl _
  | n + 1, h => by
    have a := sm_pos (n := n) fun i hi => h i (by omega)
    have b := h n (by omega)
    show 0 ≤ sm n f + f n
    omega
theorem sm_le {f g : Nat → Int} : ∀ {n : Nat}, (∀ i, i < n → f i ≤ g i) → sm n f ≤ sm n g
  | 0, _ => Int.le_refl _
  | n + 1, h => by
    have a := sm_le (n := n) fun i hi => h i (by omega)
    have b := h n (by omega)
    show sm n f + f n ≤ sm n g + g n
    omega
/-! ### lists by places -/
def at0 (a : List Int) (i : Nat) : Int := a.getD i 0
def tab (n : Nat) (f : Nat → Int) : List Int := (List.range n).map f
@[simp] theorem tab_len {n : Nat} {f : Nat → Int} : (tab n f).length = n := by simp [tab]
theorem tab_get {n i : Nat} {f : Nat → Int} (h : i < n) : (tab n f)[i]? = some (f i) := by simp [tab, h]
theorem tab_at {n i : Nat} {f : Nat → Int} (h : i < n) : at0 (tab n f) i = f i := by
  unfold at0
  rw [List.getD_eq_getElem?_getD, tab_get h]; rfl
theorem at0_some {a : List Int} {i : Nat} {x : Int} (h : a[i]? = some x) : at0 a i = x := by
  unfold at0
  rw [List.getD_eq_getElem?_getD, h]; rfl
theorem get_at0 {a : List Int} {i : Nat} (h : i < a.length) : a[i]? = some (at0 a i) := by
  unfold at0
  rw [List.getD_eq_getElem?_getD, List.getElem?_eq_getElem h]; rfl
theorem tab_eq (a : List Int) : a = tab a.length (at0 a) := by
  refine List.ext_getElem? fun i => ?_
  by_cases h : i < a.length
  · rw [tab_get h, get_at0 h]
  · rw [List.getElem?_eq_none (by omega), List.getElem?_eq_none (by simp; omega)]
theorem tab_congr {n : Nat} {f g : Nat → Int} (h : ∀ i, i < n → f i = g i) : tab n f = tab n g := by
  refine List.ext_getElem? fun i => ?_
  by_cases hi : i < n
  · rw [tab_get hi, tab_get hi, h i hi]
  · rw [List.getElem?_eq_none (by simp; omega), List.getElem?_eq_none (by simp; omega)]
theorem list_ext0 {a b : List Int} (hl : a.length = b.length) (h : ∀ i, i < a.length → at0 a i = at0 b i) : a = b := by
  rw [tab_eq a, tab_eq b, hl]
  exact tab_congr fun i hi => h i (by omega)
theorem tab_set {n p : Nat} {f : Nat → Int} {x : Int} : (tab n f).set p x = tab n (fun i => if i = p then x else f i) := by
  refine List.ext_getElem? fun i => ?_
  rw [List.getElem?_set]
  by_cases hi : i < n
  · rw [tab_get hi]
    by_cases hp : p = i
    · subst hp
      rw [if_pos rfl, if_pos (by simp; exact hi), tab_get hi, if_pos rfl]
    · rw [if_neg hp, tab_get hi, if_neg (Ne.symm hp)]
  · rw [List.getElem?_eq_none (l := tab n _) (by simp; omega), List.getElem?_eq_none (l := tab n _) (by simp; omega)]
    split
    · rw [if_neg (by simp; omega)]
    · rfl
theorem rep_tab {n : Nat} {x : Int} : List.replicate n x = tab n (fun _ => x) := by
  refine List.ext_getElem? fun i => ?_
  by_cases hi : i < n
  · rw [tab_get hi, List.getElem?_replicate, if_pos hi]
  · rw [List.getElem?_eq_none (by simp; omega), List.getElem?_eq_none (by simp; omega)]
theorem map_tab {a : List Int} {g : Int → Int} : a.map g = tab a.length (fun i => g (at0 a i)) := by
  refine List.ext_getElem? fun i => ?_
  by_cases hi : i < a.length
  · rw [tab_get hi, List.getElem?_map, get_at0 hi]; rfl
  · rw [List.getElem?_eq_none (by simp; omega), List.getElem?_eq_none (by simp; omega)]
theorem rng_map_tab {n : Nat} {g : Int → Int} : (rng 0 n).map g = tab n (fun i => g (i : Int)) := by
  unfold rng tab
  rw [List.map_map]
  refine List.map_congr_left fun i _ => ?_
  show g (0 + (i : Int)) = _
  rw [Int.zero_add]
theorem zip_map_tab {a b : List Int} {g : Int × Int → Int} (h : a.length = b.length) : (a.zip b).map g = tab a.length (fun i => g (at0 a i, at0 b i)) := by
  refine List.ext_getElem? fun i => ?_
  by_cases hi : i < a.length
  · rw [tab_get hi, List.getElem?_map]
    have e : (a.zip b)[i]? = some (at0 a i, at0 b i) := List.getElem?_zip_eq_some.mpr ⟨get_at0 hi, get_at0 (by omega)⟩
    rw [e]; rfl
  · rw [List.getElem?_eq_none (by simp; omega), List.getElem?_eq_none (by simp; omega)]
/-! ### x to the power n is -1 -/
def dl (n : Nat) (x : Int) : Int := if x % (2 * n) = 0 then 1 else if x % (2 * n) = n then -1 else 0
theorem dl_per {n : Nat} (x c : Int) : dl n (x + 2 * n * c) = dl n x := by
  unfold dl
  rw [Int.add_mul_emod_self_left]
theorem dl_cong {n : Nat} {x y c : Int} (h : x = y + 2 * n * c) : dl n x = dl n y := by rw [h, dl_per]
theorem mod_ne {n : Nat} (hn : 0 < n) {x : Int} : (x + n) % (2 * (n : Int)) = if x % (2 * n) < n then x % (2 * n) + n else x % (2 * n) - n := by
  have h1 := Int.emod_nonneg x (show 2 * (n : Int) ≠ 0 by omega)
  have h2 := Int.emod_lt_of_pos x (show (0 : Int) < 2 * n by omega)
  have h3 := Int.mul_ediv_add_emod x (2 * n)
  generalize x % (2 * (n : Int)) = r at *
  generalize x / (2 * (n : Int)) = q at *
  subst h3
  split
  · rw [show 2 * (n : Int) * q + r + n = (r + n) + 2 * n * q by omega, Int.add_mul_emod_self_left, Int.emod_eq_of_lt (by omega) (by omega)]
  · rw [show 2 * (n : Int) * q + r + n = (r - n) + 2 * n * (q + 1) by rw [Int.mul_add]; omega, Int.add_mul_emod_self_left, Int.emod_eq_of_lt (by omega) (by omega)]
theorem dl_half {n : Nat} (hn : 0 < n) (x : Int) : dl n (x + n) = -dl n x := by
  unfold dl
  rw [mod_ne hn]
  have h1 := Int.emod_nonneg x (show 2 * (n : Int) ≠ 0 by omega)
  have h2 := Int.emod_lt_of_pos x (show (0 : Int) < 2 * n by omega)
  generalize x % (2 * (n : Int)) = r at *
  repeat' split
  all_goals omega
theorem dl_halfs {n : Nat} (hn : 0 < n) (x : Int) : dl n (x - n) = -dl n x := by
  have := dl_half hn (x - n)
  rw [show x - (n : Int) + n = x by omega] at this
  omega
theorem dl_zero {n : Nat} : dl n 0 = 1 := by unfold dl; simp
theorem dl_small {n : Nat} {x : Int} (h1 : -(n : Int) < x) (h2 : x < n) (h3 : x ≠ 0) : dl n x = 0 := by
  unfold dl
  have e : x % (2 * (n : Int)) = if 0 ≤ x then x else x + 2 * n := by
    split
    · exact Int.emod_eq_of_lt (by omega) (by omega)
    · rw [show x = (x + 2 * n) + 2 * n * (-1) by omega, Int.add_mul_emod_self_left, Int.emod_eq_of_lt (by omega) (by omega)]
      omega
  rw [e]
  repeat' split
  all_goals omega
/-- the coefficient of a at the place k, at all places -/
def co (a : List Int) (k : Int) : Int := sm a.length fun j => dl a.length (j - k) * at0 a j
theorem co_add {a : List Int} (h : 0 < a.length) (k : Int) : co a (k + a.length) = -co a k := by
  unfold co
  rw [← sm_neg]
  refine sm_ext (fun j => ?_) _
  rw [show (j : Int) - (k + a.length) = j - k - a.length by omega, dl_halfs h, Int.neg_mul]
theorem co_per {a : List Int} (k c : Int) : co a (k + 2 * a.length * c) = co a k := by
  unfold co
  refine sm_ext (fun j => ?_) _
  rw [dl_cong (y := (j : Int) - k) (c := -c)]
  rw [Int.mul_neg]; omega
theorem co_at {a : List Int} {i : Nat} (h : i < a.length) : co a i = at0 a i := by
  unfold co
  rw [sm_one h fun j hj ne => by rw [dl_small (by omega) (by omega) (by omega), Int.zero_mul], show (i : Int) - i = 0 by omega, dl_zero, Int.one_mul]
theorem co_ext {a b : List Int} (hl : a.length = b.length) (h : ∀ i : Nat, i < a.length → co a i = co b i) : a = b :=
  list_ext0 hl fun i hi => by rw [← co_at hi, ← co_at (by omega), h i hi]
/-- antiperiodic -/
def Ap (n : Nat) (f : Int → Int) : Prop := ∀ k, f (k + n) = -f k
theorem co_ap {a : List Int} (h : 0 < a.length) : Ap a.length (co a) := co_add h
theorem Ap.per {n : Nat} {f : Int → Int} (h : Ap n f) (k : Int) : f (k + 2 * n) = f k := by
  rw [show k + 2 * (n : Int) = k + n + n by omega, h, h, Int.neg_neg]
theorem Ap.pers {n : Nat} {f : Int → Int} (h : Ap n f) (k : Int) : ∀ c : Nat, f (k + 2 * n * c) = f k
  | 0 => by rw [show k + 2 * (n : Int) * ((0 : Nat) : Int) = k by simp]
  | c + 1 => by
    have := Ap.pers h (k + 2 * n) c
    rw [show k + 2 * (n : Int) * ((c + 1 : Nat) : Int) = k + 2 * n + 2 * n * c by rw [Int.natCast_add, Int.mul_add]; omega, this, h.per]
theorem Ap.cong {n : Nat} {f : Int → Int} (h : Ap n f) {k l c : Int} (e : k = l + 2 * n * c) : f k = f l := by
  by_cases hc : 0 ≤ c
  · have := h.pers l c.toNat
    rw [Int.toNat_of_nonneg hc, ← e] at this
    exact this
  · have := h.pers k (-c).toNat
    rw [Int.toNat_of_nonneg (by omega)] at this
    rw [← this]
    congr 1
    rw [e, Int.mul_neg]; omega
/-- two antiperiodic functions that agree at 0, .., n - 1 -/
theorem Ap.ext {n : Nat} (hn : 0 < n) {f g : Int → Int} (hf : Ap n f) (hg : Ap n g) (h : ∀ i : Nat, i < n → f i = g i) (k : Int) : f k = g k := by
  have h1 := Int.emod_nonneg k (show 2 * (n : Int) ≠ 0 by omega)
  have h2 := Int.emod_lt_of_pos k (show (0 : Int) < 2 * n by omega)
  have h3 := Int.mul_ediv_add_emod k (2 * n)
  have e : k = k % (2 * n) + 2 * n * (k / (2 * n)) := by omega
  rw [hf.cong e, hg.cong e]
  generalize k % (2 * (n : Int)) = r at h1 h2
  by_cases hr : r < n
  · have := h r.toNat (by omega)
    rw [Int.toNat_of_nonneg h1] at this
    exact this
  · have := h (r - n).toNat (by omega)
    rw [Int.toNat_of_nonneg (by omega)] at this
    have a := hf (r - n)
    have b := hg (r - n)
    rw [show r - (n : Int) + n = r by omega] at a b
    rw [a, b, this]
theorem co_tab {n : Nat} (hn : 0 < n) {f : Int → Int} (hf : Ap n f) (k : Int) : co (tab n (fun i => f i)) k = f k := by
  have h0 : (tab n (fun i => f (i : Int))).length = n := tab_len
  have ap : Ap n (co (tab n (fun i => f i))) := by
    have := co_ap (a := tab n (fun i => f (i : Int))) (by rw [h0]; exact hn)
    rw [h0] at this
    exact this
  refine Ap.ext hn ap hf (fun i hi => ?_) k
  rw [co_at (by rw [h0]; exact hi), tab_at hi]
/-! ### the deeds -/
/-- each a_j added at the place q j -/
def plc (n : Nat) (a : List Int) (q : Nat → Int) (m : Nat) : List Int := tab n fun p => sm m fun j => dl n (q j - p) * at0 a j
theorem plc_ap {n : Nat} (hn : 0 < n) {a : List Int} {q : Nat → Int} {m : Nat} : Ap n fun p => sm m fun j => dl n (q j - p) * at0 a j := fun k => by
  show sm m (fun j => dl n (q j - (k + n)) * at0 a j) = -sm m (fun j => dl n (q j - k) * at0 a j)
  rw [← sm_neg]
  refine sm_ext (fun j => ?_) _
  rw [show q j - (k + n) = q j - k - n by omega, dl_halfs hn, Int.neg_mul]
theorem co_plc {n : Nat} (hn : 0 < n) {a : List Int} {q : Nat → Int} {m : Nat} (k : Int) : co (plc n a q m) k = sm m fun j => dl n (q j - k) * at0 a j := co_tab hn (plc_ap hn) k
def nmul (a b : List Int) : List Int := tab a.length fun p => sm a.length fun i => sm a.length fun j => dl a.length (i + j - p) * (at0 a i * at0 b j)
theorem co_nmul {a b : List Int} (h : 0 < a.length) (hl : b.length = a.length) (k : Int) : co (nmul a b) k = sm a.length fun i => at0 a i * co b (k - i) := by
  have e : nmul a b = tab a.length (fun p : Nat => sm a.length fun i => at0 a i * co b ((p : Int) - i)) := by
    refine tab_congr fun p _ => sm_ext (fun i => ?_) _
    unfold co
    rw [← sm_mul, hl]
    refine sm_ext (fun j => ?_) _
    rw [show (i : Int) + j - p = j - ((p : Int) - i) by omega, Int.mul_left_comm]
  rw [e]
  refine co_tab (f := fun p => sm a.length fun i => at0 a i * co b (p - i)) h (fun p => ?_) k
  show sm a.length (fun i => at0 a i * co b (p + a.length - i)) = -sm a.length (fun i => at0 a i * co b (p - i))
  rw [← sm_neg]
  refine sm_ext (fun i => ?_) _
  have := co_add (a := b) (by omega) (p - i)
  rw [hl, show p - (i : Int) + a.length = p + a.length - i by omega] at this
  rw [this, Int.mul_neg]
@[simp] theorem nmul_len {a b : List Int} : (nmul a b).length = a.length := tab_len
@[simp] theorem plc_len {n m : Nat} {a : List Int} {q : Nat → Int} : (plc n a q m).length = n := tab_len
/-- .. over all places -/
theorem co_nmul' {a b : List Int} (h : 0 < a.length) (hl : b.length = a.length) (k : Int) : co (nmul a b) k = sm a.length fun i => co a i * co b (k - i) := by
  rw [co_nmul h hl]
  exact sm_congr fun i hi => by rw [co_at hi]
/-- what is added at one step -/
theorem plc_step {n : Nat} (hn : 0 < n) {a : List Int} {q : Nat → Int} {m : Nat} :
    plc n a q (m + 1) = if q m % (2 * n) < n then (plc n a q m).set (q m % (2 * n)).toNat (at0 (plc n a q m) (q m % (2 * n)).toNat + at0 a m)
      else (plc n a q m).set (q m % (2 * n) - n).toNat (at0 (plc n a q m) (q m % (2 * n) - n).toNat - at0 a m) := by
  have h1 := Int.emod_nonneg (q m) (show 2 * (n : Int) ≠ 0 by omega)
  have h2 := Int.emod_lt_of_pos (q m) (show (0 : Int) < 2 * n by omega)
  have h3 := Int.mul_ediv_add_emod (q m) (2 * n)
  have key : ∀ p : Nat, p < n → dl n (q m - p) = if (p : Int) = q m % (2 * n) then 1 else if (p : Int) = q m % (2 * n) - n then -1 else 0 := fun p hp => by
    rw [dl_cong (x := q m - p) (y := q m % (2 * n) - p) (c := q m / (2 * n)) (by omega)]
    generalize q m % (2 * (n : Int)) = r at h1 h2
    by_cases e1 : (p : Int) = r
    · rw [if_pos e1, show r - (p : Int) = 0 by omega, dl_zero]
    · rw [if_neg e1]
      by_cases e2 : (p : Int) = r - n
      · rw [if_pos e2, show r - (p : Int) = 0 + n by omega, dl_half hn, dl_zero]
      · rw [if_neg e2]
        by_cases e3 : r < n
        · exact dl_small (by omega) (by omega) (by omega)
        · rw [show r - (p : Int) = (r - n - p) + n by omega, dl_half hn, dl_small (by omega) (by omega) (by omega)]; rfl
  unfold plc
  generalize q m % (2 * (n : Int)) = r at h1 h2 key
  by_cases e : r < n
  · rw [if_pos e, tab_set, tab_at (by omega)]
    refine tab_congr fun p hp => ?_
    show sm m _ + dl n (q m - p) * at0 a m = _
    rw [key p hp]
    by_cases ep : p = r.toNat
    · subst ep
      rw [if_pos (by omega), if_pos rfl, Int.one_mul]
    · rw [if_neg (by omega), if_neg (by omega), if_neg ep, Int.zero_mul, Int.add_zero]
  · rw [if_neg e, tab_set, tab_at (by omega)]
    refine tab_congr fun p hp => ?_
    show sm m _ + dl n (q m - p) * at0 a m = _
    rw [key p hp]
    by_cases ep : p = (r - n).toNat
    · subst ep
      rw [if_neg (by omega), if_pos (by omega), if_pos rfl, Int.neg_mul, Int.one_mul]; rfl
    · rw [if_neg (by omega), if_neg (by omega), if_neg ep, Int.zero_mul, Int.add_zero]
theorem plc_zero {n : Nat} {a : List Int} {q : Nat → Int} : plc n a q 0 = tab n fun _ => 0 := rfl
/-- places that are unlike: what stood there is 0 -/
theorem plc_free {n : Nat} (hn : 0 < n) {a : List Int} {q : Nat → Int} {m : Nat} (h : ∀ j, j < m → (q j - q m) % n ≠ 0) : (q m % (2 * n) < n → at0 (plc n a q m) (q m % (2 * n)).toNat = 0) ∧ (¬ q m % (2 * n) < n → at0 (plc n a q m) (q m % (2 * n) - n).toNat = 0) := by
  have h1 := Int.emod_nonneg (q m) (show 2 * (n : Int) ≠ 0 by omega)
  have h2 := Int.emod_lt_of_pos (q m) (show (0 : Int) < 2 * n by omega)
  have h3 := Int.mul_ediv_add_emod (q m) (2 * n)
  have z : ∀ (j : Nat) (p c : Int), j < m → q m = p + n * c → dl n (q j - p) = 0 := fun j p c hj e => by
    have hj' := h j hj
    unfold dl
    have d : ∀ x : Int, x % (2 * n) = 0 ∨ x % (2 * n) = n → x % n = 0 := fun x hx => by
      have h4 := Int.mul_ediv_add_emod x (2 * n)
      rcases hx with hx | hx
      · rw [hx] at h4
        rw [← h4, Int.add_zero, Int.mul_comm 2, Int.mul_assoc, Int.mul_emod_right]
      · rw [hx] at h4
        rw [← h4, show 2 * (n : Int) * (x / (2 * n)) + n = n * (2 * (x / (2 * n)) + 1) by rw [Int.mul_add, Int.mul_one, ← Int.mul_assoc, Int.mul_comm (n : Int) 2], Int.mul_emod_right]
    have e2 : (q j - p) % n = (q j - q m) % n := by
      rw [show q j - p = (q j - q m) + n * c by omega, Int.add_mul_emod_self_left]
    rw [← e2] at hj'
    rw [if_neg fun q => hj' (d _ (.inl q)), if_neg fun q => hj' (d _ (.inr q))]
  constructor
  · intro e
    unfold plc
    rw [tab_at (by omega)]
    refine sm_zero fun j hj => ?_
    rw [z j _ (2 * (q m / (2 * n))) hj (by rw [← Int.mul_assoc, Int.mul_comm (n : Int) 2]; omega), Int.zero_mul]
  · intro e
    unfold plc
    rw [tab_at (by omega)]
    refine sm_zero fun j hj => ?_
    rw [z j _ (2 * (q m / (2 * n)) + 1) hj (by rw [Int.mul_add, ← Int.mul_assoc, Int.mul_comm (n : Int) 2]; omega), Int.zero_mul]
/-! ### shifts and turns -/
def nshift (a : List Int) (s : Int) : List Int := plc a.length a (fun i => i + s) a.length
def nturn (a : List Int) (t : Int) : List Int := plc a.length a (fun i => i * t) a.length
@[simp] theorem nshift_len {a : List Int} {s : Int} : (nshift a s).length = a.length := tab_len
@[simp] theorem nturn_len {a : List Int} {s : Int} : (nturn a s).length = a.length := tab_len
theorem co_nshift {a : List Int} (h : 0 < a.length) (s k : Int) : co (nshift a s) k = co a (k - s) := by
  unfold nshift
  rw [co_plc h]
  unfold co
  exact sm_ext (fun j => by rw [show (j : Int) + s - k = j - (k - s) by omega]) _
/-- an odd number has an inverse modulo a power of 2 -/
theorem odd_inv {t : Int} (ht : t % 2 = 1) : ∀ m : Nat, ∃ u c : Int, t * u = 1 + 2 ^ m * c
  | 0 => ⟨1, t - 1, by rw [Int.pow_zero]; omega⟩
  | m + 1 => by
    obtain ⟨u, c, h⟩ := odd_inv ht m
    obtain ⟨d, hd⟩ : ∃ d, t = 2 * d + 1 := ⟨t / 2, by omega⟩
    refine ⟨u + 2 ^ m * c, c * (d + 1), ?_⟩
    rw [Int.mul_add, h, Int.pow_succ]
    have e : t * (2 ^ m * c) = 2 ^ m * (t * c) := Int.mul_left_comm ..
    rw [e, hd, Int.add_mul, Int.one_mul, Int.mul_assoc (2 ^ m : Int) 2, Int.add_assoc, ← Int.mul_add]
    congr 2
    rw [Int.mul_add, Int.mul_one, Int.mul_add, Int.mul_assoc, Int.mul_comm d c]
    omega
theorem pow2_even {e : Nat} : (2 : Int) * ((2 ^ e : Nat) : Int) = 2 ^ (e + 1) := by
  rw [Int.natCast_pow, Int.pow_succ, Int.mul_comm]; rfl
theorem odd_cancel {e : Nat} {t x : Int} (ht : t % 2 = 1) (h : (x * t) % ((2 ^ e : Nat) : Int) = 0) : x % ((2 ^ e : Nat) : Int) = 0 := by
  obtain ⟨u, c, hu⟩ := odd_inv ht e
  have e1 : x = (x * t) * u + ((2 ^ e : Nat) : Int) * (-(x * c)) := by
    rw [Int.mul_assoc, hu, Int.natCast_pow, Int.mul_add, Int.mul_one, Int.mul_neg]
    have : x * (2 ^ e * c) = 2 ^ e * (x * c) := Int.mul_left_comm ..
    have p : ((2 : Nat) : Int) ^ e = 2 ^ e := rfl
    rw [this, p]; omega
  rw [e1, Int.add_mul_emod_self_left, Int.mul_emod, h, Int.zero_mul, Int.zero_emod]
theorem turn_ne {e : Nat} {t : Int} (ht : t % 2 = 1) {i j : Nat} (hi : i < 2 ^ e) (hj : j < 2 ^ e) (ne : i ≠ j) : ((i : Int) * t - j * t) % ((2 ^ e : Nat) : Int) ≠ 0 := fun h => by
  rw [← Int.sub_mul] at h
  have z := odd_cancel ht h
  have p : 0 < 2 ^ e := Nat.two_pow_pos e
  generalize 2 ^ e = n at *
  have := Int.mul_ediv_add_emod ((i : Int) - j) n
  rw [z] at this
  by_cases q : ((i : Int) - j) / n = 0
  · rw [q] at this; omega
  · by_cases qp : 0 < ((i : Int) - j) / n
    · have : (n : Int) * 1 ≤ n * (((i : Int) - j) / n) := Int.mul_le_mul_of_nonneg_left (by omega) (by omega)
      omega
    · have : (n : Int) * (((i : Int) - j) / n) ≤ n * (-1) := Int.mul_le_mul_of_nonneg_left (by omega) (by omega)
      omega
theorem co_nturn {a : List Int} {e : Nat} (hl : a.length = 2 ^ e) {t : Int} (ht : t % 2 = 1) (k : Int) : co (nturn a t) (k * t) = co a k := by
  have hn : 0 < a.length := by rw [hl]; exact Nat.two_pow_pos e
  obtain ⟨d, hd⟩ : ∃ d, t = 2 * d + 1 := ⟨t / 2, by omega⟩
  refine Ap.ext hn (f := fun k => co (nturn a t) (k * t)) (fun k => ?_) (co_ap hn) (fun i hi => ?_) k
  · show co (nturn a t) ((k + a.length) * t) = -co (nturn a t) (k * t)
    have e1 : (k + (a.length : Int)) * t = k * t + a.length + 2 * (a.length : Int) * d := by
      rw [Int.add_mul, hd, Int.mul_add (a.length : Int), Int.mul_one, ← Int.mul_assoc, Int.mul_comm (a.length : Int) 2]; omega
    have c1 := co_per (a := nturn a t) (k * t + a.length) d
    have c2 := co_add (a := nturn a t) (by simpa using hn) (k * t)
    rw [nturn_len] at c1 c2
    rw [e1, c1, c2]
  · show co (nturn a t) ((i : Int) * t) = co a i
    unfold nturn
    rw [co_plc hn, co_at hi, sm_one hi fun j hj ne => ?_, show (i : Int) * t - i * t = 0 by omega, dl_zero, Int.one_mul]
    have ne2 : ((j : Int) * t - i * t) % (a.length : Int) ≠ 0 := by
      rw [hl]
      exact turn_ne ht (by omega) (by omega) ne
    have d0 : dl a.length ((j : Int) * t - i * t) = 0 := by
      unfold dl
      have d : ∀ x : Int, x % (2 * a.length) = 0 ∨ x % (2 * a.length) = a.length → x % a.length = 0 := fun x hx => by
        have h4 := Int.mul_ediv_add_emod x (2 * a.length)
        rcases hx with hx | hx
        · rw [hx] at h4
          rw [← h4, Int.add_zero, Int.mul_comm 2, Int.mul_assoc, Int.mul_emod_right]
        · rw [hx] at h4
          rw [← h4, show 2 * (a.length : Int) * (x / (2 * a.length)) + a.length = a.length * (2 * (x / (2 * a.length)) + 1) by rw [Int.mul_add, Int.mul_one, ← Int.mul_assoc, Int.mul_comm (a.length : Int) 2], Int.mul_emod_right]
      rw [if_neg fun q => ne2 (d _ (.inl q)), if_neg fun q => ne2 (d _ (.inr q))]
    rw [d0, Int.zero_mul]
/-- two polynomials that agree at all multiples of an odd number -/
theorem turn_ext {a b : List Int} {e : Nat} (ha : a.length = 2 ^ e) (hb : b.length = 2 ^ e) {t : Int} (ht : t % 2 = 1) (h : ∀ k, co a (k * t) = co b (k * t)) : a = b := by
  refine co_ext (by omega) fun i _ => ?_
  obtain ⟨u, c, hu⟩ := odd_inv ht (e + 1)
  have e1 : (i : Int) * u * t = i + 2 * ((2 ^ e : Nat) : Int) * (i * c) := by
    rw [Int.mul_assoc, Int.mul_comm u, hu, pow2_even, Int.mul_add, Int.mul_one]
    congr 1
    exact Int.mul_left_comm ..
  have k1 := h ((i : Int) * u)
  rw [e1] at k1
  have c1 := co_per (a := a) i (i * c)
  have c2 := co_per (a := b) i (i * c)
  rw [ha] at c1
  rw [hb] at c2
  rw [← c1, ← c2, k1]
theorem turn_turn {a : List Int} {e : Nat} (hl : a.length = 2 ^ e) {k l : Int} (hk : k % 2 = 1) (h2 : l % 2 = 1) : nturn (nturn a k) l = nturn a (k * l) := by
  have hkl : (k * l) % 2 = 1 := by
    obtain ⟨c, hc⟩ : ∃ c, k = 2 * c + 1 := ⟨k / 2, by omega⟩
    rw [hc, Int.add_mul, Int.one_mul, Int.mul_assoc]; omega
  refine turn_ext (by simpa using hl) (by simpa using hl) hkl fun j => ?_
  rw [co_nturn hl hkl, ← Int.mul_assoc, co_nturn (by simpa using hl) h2, co_nturn hl hk]
theorem turn_per {a : List Int} {t l : Int} : nturn a (t + 2 * a.length * l) = nturn a t := by
  unfold nturn plc
  refine tab_congr fun p _ => sm_ext (fun j => ?_) _
  rw [dl_cong (x := (j : Int) * (t + 2 * a.length * l) - p) (y := j * t - p) (c := j * l)]
  rw [Int.mul_add, Int.mul_left_comm]; omega
theorem shift_per {a : List Int} {s l : Int} : nshift a (s + 2 * a.length * l) = nshift a s := by
  unfold nshift plc
  refine tab_congr fun p _ => sm_ext (fun j => ?_) _
  rw [dl_cong (x := (j : Int) + (s + 2 * a.length * l) - p) (y := j + s - p) (c := l)]
  omega
theorem shift_back {a : List Int} (h : 0 < a.length) {s : Int} : nshift (nshift a s) (-s) = a := by
  refine co_ext (by simp) fun i _ => ?_
  rw [co_nshift (by simpa using h), co_nshift h]
  congr 1; omega
/-- products turned -/
theorem turn_mul {a b : List Int} {e : Nat} (ha : a.length = 2 ^ e) (hb : b.length = 2 ^ e) {t : Int} (ht : t % 2 = 1) : nturn (nmul a b) t = nmul (nturn a t) (nturn b t) := by
  have hn : 0 < a.length := by rw [ha]; exact Nat.two_pow_pos e
  refine turn_ext (e := e) (by simpa using ha) (by simpa using ha) ht fun k => ?_
  rw [co_nturn (by simpa using ha) ht, co_nmul' hn (by omega), co_nmul' (by simpa using hn) (by simp; omega), nturn_len]
  -- the sum over the other places
  obtain ⟨u, c, hu⟩ := odd_inv ht e
  have hnn : (0 : Int) < (a.length : Int) := by omega
  have per : ∀ (j c : Int), co (nturn a t) (j + a.length * c) * co (nturn b t) (k * t - (j + a.length * c)) = co (nturn a t) j * co (nturn b t) (k * t - j) := fun j c => by
    have ap1 : Ap a.length (co (nturn a t)) := by have := co_ap (a := nturn a t) (by simpa using hn); rwa [nturn_len] at this
    have ap2 : Ap a.length (co (nturn b t)) := by have := co_ap (a := nturn b t) (by simp; omega); rwa [nturn_len, hb, ← ha] at this
    have step : ∀ j : Int, co (nturn a t) (j + a.length) * co (nturn b t) (k * t - (j + a.length)) = co (nturn a t) j * co (nturn b t) (k * t - j) := fun j => by
      have q := ap2 (k * t - (j + a.length))
      rw [show k * t - (j + (a.length : Int)) + a.length = k * t - j by omega] at q
      rw [ap1, q, Int.mul_neg, Int.neg_mul]
    have nat : ∀ (m : Nat) (j : Int), co (nturn a t) (j + a.length * m) * co (nturn b t) (k * t - (j + a.length * m)) = co (nturn a t) j * co (nturn b t) (k * t - j) := fun m => by
      induction m with
      | zero => intro j; simp
      | succ m ih =>
        intro j
        rw [show j + (a.length : Int) * ((m + 1 : Nat) : Int) = j + a.length * m + a.length by rw [Int.natCast_add, Int.mul_add]; omega, step, ih]
    by_cases hc : 0 ≤ c
    · have := nat c.toNat j
      rwa [Int.toNat_of_nonneg hc] at this
    · have := nat (-c).toNat (j + a.length * c)
      rw [Int.toNat_of_nonneg (by omega), show j + (a.length : Int) * c + a.length * -c = j by rw [Int.mul_neg]; omega] at this
      exact this.symm
  have perm := sm_perm (n := a.length) (fun i => (((i : Int) * t) % a.length).toNat) (fun j => (((j : Int) * u) % a.length).toNat) (fun i _ => ?_) (fun j hj => ⟨?_, ?_⟩) (fun i j hi hj h => ?_) (fun j => co (nturn a t) j * co (nturn b t) (k * t - j))
  · rw [← perm]
    refine sm_ext (fun i => ?_) _
    have h1 := Int.emod_nonneg ((i : Int) * t) (show (a.length : Int) ≠ 0 by omega)
    have h3 := Int.mul_ediv_add_emod ((i : Int) * t) a.length
    have q := per (((i : Int) * t) % a.length) (((i : Int) * t) / a.length)
    rw [show ((i : Int) * t) % a.length + a.length * (((i : Int) * t) / a.length) = i * t by omega] at q
    rw [Int.toNat_of_nonneg h1, ← q, co_nturn ha ht, ← Int.sub_mul, co_nturn hb ht]
  · have h1 := Int.emod_nonneg ((i : Int) * t) (show (a.length : Int) ≠ 0 by omega)
    have h2 := Int.emod_lt_of_pos ((i : Int) * t) hnn
    omega
  · have h1 := Int.emod_nonneg ((j : Int) * u) (show (a.length : Int) ≠ 0 by omega)
    have h2 := Int.emod_lt_of_pos ((j : Int) * u) hnn
    omega
  · show ((((((j : Int) * u) % a.length).toNat : Nat) : Int) * t % a.length).toNat = j
    have h1 := Int.emod_nonneg ((j : Int) * u) (show (a.length : Int) ≠ 0 by omega)
    rw [Int.toNat_of_nonneg h1]
    have e1 : ((j : Int) * u % a.length) * t % a.length = j := by
      rw [Int.mul_emod, Int.emod_emod_of_dvd _ (Int.dvd_refl _), ← Int.mul_emod, Int.mul_assoc, Int.mul_comm u, hu, Int.mul_add, Int.mul_one]
      have p : (2 : Int) ^ e = (a.length : Int) := by rw [ha, Int.natCast_pow]; rfl
      rw [p, Int.mul_left_comm, Int.add_mul_emod_self_left, Int.emod_eq_of_lt (by omega) (by omega)]
    rw [e1]; omega
  · have h' : (((i : Int) * t) % a.length).toNat = (((j : Int) * t) % a.length).toNat := h
    have h1 := Int.emod_nonneg ((i : Int) * t) (show (a.length : Int) ≠ 0 by omega)
    have h2 := Int.emod_nonneg ((j : Int) * t) (show (a.length : Int) ≠ 0 by omega)
    by_cases ne : i = j
    · exact ne
    · exfalso
      have z := turn_ne (e := e) ht (i := i) (j := j) (by omega) (by omega) ne
      rw [← ha] at z
      apply z
      rw [Int.sub_emod, show (i : Int) * t % a.length = j * t % a.length by omega, Int.sub_self, Int.zero_emod]
end VT
/-! VRing2: norms; the ring's laws. -/
namespace VT
open PySem hiding Env
open VL Enc
/-! ### absolute values -/
theorem iabs_nn (x : Int) : 0 ≤ iabs x := by unfold iabs; split <;> omega
theorem iabs_le {x m : Int} : iabs x ≤ m ↔ -m ≤ x ∧ x ≤ m := by unfold iabs; split <;> omega
theorem iabs_le_self (x : Int) : x ≤ iabs x := by unfold iabs; split <;> omega
theorem iabs_neg (x : Int) : iabs (-x) = iabs x := by unfold iabs; split <;> split <;> omega
theorem iabs_add (x y : Int) : iabs (x + y) ≤ iabs x + iabs y := by unfold iabs; split <;> split <;> split <;> omega
theorem iabs_natAbs (x : Int) : iabs x = (x.natAbs : Int) := by unfold iabs; split <;> omega
theorem iabs_mul (x y : Int) : iabs (x * y) = iabs x * iabs y := by
  simp only [iabs_natAbs, Int.natAbs_mul, Int.natCast_mul]
theorem iabs_of_nn {x : Int} (h : 0 ≤ x) : iabs x = x := by unfold iabs; split <;> omega
theorem iabs_idem (x : Int) : iabs (iabs x) = iabs x := iabs_of_nn (iabs_nn x)
theorem iabs_sm (f : Nat → Int) : ∀ n : Nat, iabs (sm n f) ≤ sm n fun i => iabs (f i)
  | 0 => Int.le_refl _
  | n + 1 => Int.le_trans (iabs_add _ _) (Int.add_le_add_right (iabs_sm f n) _)
theorem sm_const (c : Int) : ∀ n : Nat, sm n (fun _ => c) = n * c
  | 0 => by simp [sm]
  | n + 1 => by
    show sm n (fun _ => c) + c = _
    rw [sm_const c n, show ((n + 1 : Nat) : Int) = n + 1 by omega, Int.add_mul, Int.one_mul]
theorem sm_ge {f : Nat → Int} {k : Nat} : ∀ {n : Nat}, k < n → (∀ i, i < n → 0 ≤ f i) → f k ≤ sm n f
  | 0, h, _ => absurd h (by omega)
  | n + 1, h, z => by
    show f k ≤ sm n f + f n
    by_cases hk : k = n
    · subst hk
      have := sm_pos (n := k) fun i hi => z i (by omega)
      omega
    · have := sm_ge (f := f) (k := k) (n := n) (by omega) fun i hi => z i (by omega)
      have := z n (by omega)
      omega
/-! ### the places of dl -/
theorem dl_abs {n : Nat} (hn : 0 < n) (x : Int) : iabs (dl n x) = if x % n = 0 then 1 else 0 := by
  have hd : (n : Int) ∣ 2 * n := ⟨2, Int.mul_comm _ _⟩
  have e : x % n = x % (2 * n) % n := (Int.emod_emod_of_dvd x hd).symm
  have a := Int.emod_nonneg x (show 2 * (n : Int) ≠ 0 by omega)
  have b := Int.emod_lt_of_pos x (show 0 < 2 * (n : Int) by omega)
  unfold dl
  rw [e]
  generalize x % (2 * (n : Int)) = y at *
  by_cases h0 : y = 0
  · rw [if_pos h0, if_pos (by rw [h0]; simp)]; rfl
  · rw [if_neg h0]
    by_cases h1 : y = n
    · rw [if_pos h1, if_pos (by rw [h1]; simp)]; rfl
    · rw [if_neg h1, if_neg ?_]
      · rfl
      · by_cases h2 : y < n
        · rw [Int.emod_eq_of_lt a h2]; exact h0
        · have : y % n = y - n := by
            rw [show y = (y - n) + n by omega, Int.add_emod_right, Int.emod_eq_of_lt (by omega) (by omega)]; omega
          rw [this]; omega
theorem sm_adl {n : Nat} (hn : 0 < n) (k : Int) : sm n (fun p => iabs (dl n (k - p))) = 1 := by
  have a := Int.emod_nonneg k (show (n : Int) ≠ 0 by omega)
  have b := Int.emod_lt_of_pos k (show 0 < (n : Int) by omega)
  obtain ⟨r, hr⟩ : ∃ r : Nat, k % n = r := ⟨(k % n).toNat, by omega⟩
  have hk := Int.mul_ediv_add_emod k n
  have z : ∀ i : Nat, i < n → (k - i) % n = 0 → i = r := fun i hi h => by
    have h2 : k % n = i := by
      rw [show k = (k - i) + i by omega, Int.add_emod, h, Int.zero_add, Int.emod_emod, Int.emod_eq_of_lt (by omega) (by omega)]
    omega
  rw [sm_one (k := r) (by omega) fun i hi ne => by rw [dl_abs hn, if_neg fun h => ne (z i hi h)], dl_abs hn, if_pos]
  rw [← hr, show k - k % n = n * (k / n) by omega]
  exact Int.mul_emod_right _ _
theorem sm_adl' {n : Nat} (hn : 0 < n) (k : Int) : sm n (fun p => iabs (dl n (p - k))) = 1 := by
  rw [← sm_adl hn k]
  refine sm_congr fun i _ => ?_
  rw [dl_abs hn, dl_abs hn, show k - (i : Int) = -((i : Int) - k) by omega]
  have : ((i : Int) - k) % n = 0 ↔ (-((i : Int) - k)) % n = 0 := by
    rw [← Int.dvd_iff_emod_eq_zero, ← Int.dvd_iff_emod_eq_zero, Int.dvd_neg]
  by_cases h : ((i : Int) - k) % n = 0
  · rw [if_pos h, if_pos (this.mp h)]
  · rw [if_neg h, if_neg fun q => h (this.mpr q)]
/-! ### norms -/
def n1 (a : List Int) : Int := sm a.length fun i => iabs (at0 a i)
/-- every item is at most m -/
def Nb (a : List Int) (m : Int) : Prop := ∀ i, i < a.length → iabs (at0 a i) ≤ m
theorem n1_nn (a : List Int) : 0 ≤ n1 a := sm_pos fun i _ => iabs_nn _
theorem n1_tab {n : Nat} {f : Nat → Int} : n1 (tab n f) = sm n fun i => iabs (f i) := by
  unfold n1
  rw [tab_len]
  exact sm_congr fun i hi => by rw [tab_at hi]
theorem plc_n1 {n : Nat} (hn : 0 < n) (a : List Int) (q : Nat → Int) (m : Nat) : n1 (plc n a q m) ≤ sm m fun i => iabs (at0 a i) := by
  unfold plc
  rw [n1_tab]
  refine Int.le_trans (sm_le fun p _ => iabs_sm _ m) ?_
  rw [sm_comm]
  refine Int.le_of_eq (sm_congr fun j _ => ?_)
  rw [show (fun p : Nat => iabs (dl n (q j - p) * at0 a j)) = fun p : Nat => iabs (dl n (q j - p)) * iabs (at0 a j) from funext fun p => iabs_mul _ _, sm_mulr, sm_adl hn, Int.one_mul]
theorem shift_n1 {a : List Int} (h : 0 < a.length) (s : Int) : n1 (nshift a s) = n1 a := by
  refine Int.le_antisymm (plc_n1 h _ _ _) ?_
  have e := plc_n1 (n := a.length) h (nshift a s) (fun i => (i : Int) + -s) a.length
  have b := shift_back h (s := s)
  unfold nshift at b e ⊢
  rw [plc_len] at b
  rw [b] at e
  unfold n1
  rw [plc_len]
  exact e
theorem turn_back {a : List Int} {e : Nat} (hl : a.length = 2 ^ e) {t : Int} (ht : t % 2 = 1) : ∃ u : Int, u % 2 = 1 ∧ nturn (nturn a t) u = a := by
  obtain ⟨u, c, hu⟩ := odd_inv ht (e + 1)
  have h2 : u % 2 = 1 := by
    have p : (2 : Int) ^ (e + 1) * c = 2 * (2 ^ e * c) := by rw [Int.pow_succ, Int.mul_comm (2 ^ e) 2, Int.mul_assoc]
    have q : t * u % 2 = 1 := by rw [hu, p]; omega
    rcases (by omega : u % 2 = 0 ∨ u % 2 = 1) with h | h
    · rw [Int.mul_emod, h] at q; simp at q
    · exact h
  refine ⟨u, h2, ?_⟩
  have z : 0 < a.length := by rw [hl]; exact Nat.two_pow_pos e
  rw [turn_turn hl ht h2, hu]
  have e1 : (1 : Int) + 2 ^ (e + 1) * c = 1 + 2 * a.length * c := by rw [hl, ← pow2_even]
  rw [e1, turn_per]
  refine co_ext (nturn_len) fun i hi => ?_
  unfold nturn
  rw [co_plc z]
  unfold co
  refine sm_congr fun j _ => ?_
  rw [Int.mul_one]
theorem turn_n1 {a : List Int} {e : Nat} (hl : a.length = 2 ^ e) {t : Int} (ht : t % 2 = 1) : n1 (nturn a t) = n1 a := by
  have h : 0 < a.length := by rw [hl]; exact Nat.two_pow_pos e
  refine Int.le_antisymm (plc_n1 h _ _ _) ?_
  obtain ⟨u, hu, b⟩ := turn_back hl ht
  have q := plc_n1 (n := a.length) h (nturn a t) (fun i => (i : Int) * u) a.length
  have q2 : n1 (nturn (nturn a t) u) ≤ n1 (nturn a t) := by
    unfold n1 at q ⊢
    unfold nturn at q ⊢
    simp only [plc_len] at q ⊢
    exact q
  rw [b] at q2
  exact q2
theorem co_nb {a : List Int} {m : Int} (h : 0 < a.length) (hb : Nb a m) (k : Int) : iabs (co a k) ≤ m := by
  unfold co
  refine Int.le_trans (iabs_sm _ _) ?_
  refine Int.le_trans (sm_le (g := fun j => iabs (dl a.length (j - k)) * m) fun j hj => ?_) ?_
  · rw [iabs_mul]
    exact Int.mul_le_mul_of_nonneg_left (hb j hj) (iabs_nn _)
  · rw [sm_mulr, sm_adl' h, Int.one_mul]; exact Int.le_refl _
theorem shift_nb {a : List Int} {m : Int} (h : 0 < a.length) {s : Int} : Nb (nshift a s) m ↔ Nb a m := by
  have one : ∀ {b : List Int} {s : Int}, 0 < b.length → Nb b m → Nb (nshift b s) m := fun {b s} hz hb i hi => by
    rw [nshift_len] at hi
    rw [← co_at (by rw [nshift_len]; exact hi), co_nshift hz]
    exact co_nb hz hb _
  refine ⟨fun hb => ?_, one h⟩
  have := one (s := -s) (by rw [nshift_len]; exact h) hb
  rwa [shift_back h] at this
theorem turn_nb {a : List Int} {e : Nat} {m : Int} (hl : a.length = 2 ^ e) {t : Int} (ht : t % 2 = 1) : Nb (nturn a t) m ↔ Nb a m := by
  have one : ∀ {b : List Int} {t : Int}, b.length = 2 ^ e → t % 2 = 1 → Nb b m → Nb (nturn b t) m := fun {b t} hz ht hb i hi => by
    have hp : 0 < b.length := by rw [hz]; exact Nat.two_pow_pos e
    obtain ⟨u, hu, bk⟩ := turn_back hz ht
    have z := co_nturn hz ht (i * u)
    obtain ⟨u', c, hu'⟩ := odd_inv ht (e + 1)
    have z2 := co_nturn hz ht (i * u')
    rw [nturn_len] at hi
    rw [Int.mul_assoc, Int.mul_comm u' t, hu', Int.mul_add, Int.mul_one, ← pow2_even, ← hz] at z2
    have z3 := co_per (a := nturn b t) i (c * i)
    rw [nturn_len] at z3
    rw [← co_at (by rw [nturn_len]; exact hi), ← z3]
    have e1 : (i : Int) + 2 * b.length * (c * i) = i + i * (2 * b.length * c) := by
      rw [← Int.mul_assoc, Int.mul_comm (2 * (b.length : Int) * c) i]
    rw [e1, z2]
    exact co_nb hp hb _
  refine ⟨fun hb => ?_, one hl ht⟩
  obtain ⟨u, hu, bk⟩ := turn_back hl ht
  have := one (t := u) (by rw [nturn_len]; exact hl) hu hb
  rwa [bk] at this
/-! ### products -/
theorem nmul_abs {a b : List Int} (p : Nat) (hp : p < a.length) : iabs (at0 (nmul a b) p) ≤ sm a.length fun i => sm a.length fun j => iabs (dl a.length (i + j - p)) * (iabs (at0 a i) * iabs (at0 b j)) := by
  unfold nmul
  rw [tab_at hp]
  refine Int.le_trans (iabs_sm _ _) (sm_le fun i _ => Int.le_trans (iabs_sm _ _) (sm_le fun j _ => ?_))
  rw [iabs_mul, iabs_mul]
  exact Int.le_refl _
theorem mul_nb {a b : List Int} {m : Int} (h : 0 < a.length) (hl : b.length = a.length) (hb : Nb b m) : Nb (nmul a b) (n1 a * m) := fun p hp => by
  rw [nmul_len] at hp
  refine Int.le_trans (nmul_abs p hp) ?_
  unfold n1
  rw [← sm_mulr]
  refine sm_le fun i hi => ?_
  refine Int.le_trans (sm_le (g := fun j => iabs (dl a.length (j - ((p : Int) - i))) * (iabs (at0 a i) * m)) fun j hj => ?_) ?_
  · rw [show (i : Int) + j - p = j - ((p : Int) - i) by omega]
    exact Int.mul_le_mul_of_nonneg_left (Int.mul_le_mul_of_nonneg_left (hb j (by omega)) (iabs_nn _)) (iabs_nn _)
  · rw [sm_mulr, sm_adl' h, Int.one_mul]; exact Int.le_refl _
theorem mul_n1 {a b : List Int} (h : 0 < a.length) (hl : b.length = a.length) : n1 (nmul a b) ≤ n1 a * n1 b := by
  unfold n1
  rw [nmul_len]
  refine Int.le_trans (sm_le fun p hp => nmul_abs p hp) ?_
  rw [sm_comm]
  rw [← sm_mulr]
  refine sm_le fun i _ => ?_
  rw [sm_comm, hl, ← sm_mul]
  refine sm_le fun j _ => ?_
  rw [sm_mulr, show (fun p : Nat => iabs (dl a.length ((i : Int) + j - p))) = fun p : Nat => iabs (dl a.length ((i + j : Int) - p)) from rfl, sm_adl h, Int.one_mul]
  exact Int.le_refl _
theorem n1_nb {a : List Int} {m : Int} (hb : Nb a m) : n1 a ≤ a.length * m := by
  rw [← sm_const]
  exact sm_le fun i hi => hb i hi
/-! ### the ring's laws -/
section
variable {a b c : List Int} {n : Nat}
def ladd (a b : List Int) : List Int := tab a.length fun i => at0 a i + at0 b i
@[simp] theorem ladd_len : (ladd a b).length = a.length := tab_len
theorem co_ladd (h : 0 < a.length) (hl : b.length = a.length) (k : Int) : co (ladd a b) k = co a k + co b k := by
  have := co_tab (n := a.length) h (f := fun k => co a k + co b k) (fun k => by
    have x := co_add h k
    have y := co_add (a := b) (by omega) k
    rw [hl] at y
    show co a (k + a.length) + co b (k + a.length) = -(co a k + co b k)
    rw [x, y]; omega) k
  rw [← this]
  unfold ladd
  congr 1
  refine tab_congr fun i hi => ?_
  rw [co_at hi, co_at (by omega)]
theorem at_ladd {i : Nat} (hi : i < a.length) : at0 (ladd a b) i = at0 a i + at0 b i := tab_at hi
theorem mul_addl (h : 0 < a.length) (hb : b.length = a.length) (hc : c.length = a.length) : nmul (ladd a b) c = ladd (nmul a c) (nmul b c) := by
  refine co_ext (by simp) fun k hk => ?_
  rw [co_ladd (by simpa using h) (by simp [hb]), co_nmul (by simpa using h) (by simpa using hc), co_nmul h hc, co_nmul (by omega) (by omega)]
  simp only [ladd_len, hb]
  rw [← sm_add]
  refine sm_congr fun i hi => ?_
  rw [at_ladd hi, Int.add_mul]
theorem mul_addr (h : 0 < a.length) (hb : b.length = a.length) (hc : c.length = a.length) : nmul a (ladd b c) = ladd (nmul a b) (nmul a c) := by
  refine co_ext (by simp) fun k hk => ?_
  rw [co_ladd (by simpa using h) (by simp), co_nmul h (by simpa using hb), co_nmul h hb, co_nmul h hc, ← sm_add]
  refine sm_congr fun i hi => ?_
  rw [co_ladd (by omega) (by omega), Int.mul_add]
/-- products over all places, from any side -/
theorem co_mul2 (h : 0 < a.length) (hb : b.length = a.length) (k : Int) : co (nmul a b) k = sm a.length fun i => sm a.length fun j => dl a.length (i + j - k) * (at0 a i * at0 b j) := by
  rw [co_nmul h hb]
  refine sm_congr fun i _ => ?_
  unfold co
  rw [hb, ← sm_mul]
  refine sm_congr fun j _ => ?_
  rw [show (j : Int) - (k - i) = i + j - k by omega, Int.mul_left_comm]
theorem mul_comm' (h : 0 < a.length) (hb : b.length = a.length) : nmul a b = nmul b a := by
  refine co_ext (by simp [hb]) fun k hk => ?_
  rw [co_mul2 h hb, co_mul2 (by omega) hb.symm, sm_comm, hb]
  refine sm_congr fun j _ => sm_congr fun i _ => ?_
  rw [Int.add_comm (i : Int) j, Int.mul_comm (at0 a i)]
theorem mul_assoc' (h : 0 < a.length) (hb : b.length = a.length) (hc : c.length = a.length) : nmul (nmul a b) c = nmul a (nmul b c) := by
  refine co_ext (by simp) fun k hk => ?_
  rw [mul_comm' (a := nmul a b) (b := c) (by simpa using h) (by simpa using hc), co_nmul (by omega) (by simp [hc]), co_nmul h (by simpa using hb)]
  have e1 : ∀ i : Nat, at0 c i * co (nmul a b) ((k : Int) - i) = sm a.length fun j => at0 c i * (at0 a j * co b ((k : Int) - i - j)) := fun i => by
    rw [co_nmul h hb, ← sm_mul]
  have e2 : ∀ j : Nat, at0 a j * co (nmul b c) ((k : Int) - j) = sm a.length fun i => at0 a j * (at0 c i * co b ((k : Int) - j - i)) := fun j => by
    rw [mul_comm' (a := b) (b := c) (by omega) (by omega), co_nmul (by omega) (by omega), hc, ← sm_mul]
  rw [sm_ext e1, sm_ext e2, hc, sm_comm]
  refine sm_congr fun j _ => sm_congr fun i _ => ?_
  rw [show (k : Int) - j - i = k - i - j by omega, Int.mul_left_comm]
/-- 1 -/
def one0 (n : Nat) : List Int := tab n fun i => if i = 0 then 1 else 0
@[simp] theorem one0_len {n : Nat} : (one0 n).length = n := tab_len
theorem one_mul' (h : 0 < a.length) : nmul (one0 a.length) a = a := by
  refine co_ext (by simp) fun k hk => ?_
  rw [co_nmul (by simpa using h) (by simp)]
  simp only [one0_len]
  rw [sm_one (k := 0) h fun i hi ne => by
    unfold one0
    rw [tab_at hi, if_neg ne, Int.zero_mul]]
  unfold one0
  rw [tab_at h, if_pos rfl, Int.one_mul]
  show co a ((k : Int) - 0) = _
  rw [Int.sub_zero]
def zer0 (n : Nat) : List Int := tab n fun _ => 0
@[simp] theorem zer0_len {n : Nat} : (zer0 n).length = n := tab_len
theorem at_zer0 {n i : Nat} : at0 (zer0 n) i = 0 := by
  by_cases h : i < n
  · exact tab_at h
  · unfold at0
    rw [List.getD_eq_getElem?_getD, List.getElem?_eq_none (by simpa using h)]; rfl
theorem ladd_zero : ladd (zer0 a.length) a = a := by
  refine list_ext0 (by simp) fun i hi => ?_
  rw [at_ladd (by simpa using hi), at_zer0, Int.zero_add]
theorem ladd_comm (hb : b.length = a.length) : ladd a b = ladd b a := by
  refine list_ext0 (by simp [hb]) fun i hi => ?_
  have hi : i < a.length := by simpa using hi
  rw [at_ladd hi, at_ladd (by omega), Int.add_comm]
theorem ladd_assoc (hb : b.length = a.length) : ladd (ladd a b) c = ladd a (ladd b c) := by
  refine list_ext0 (by simp) fun i hi => ?_
  have hi : i < a.length := by simpa using hi
  rw [at_ladd (by simpa using hi), at_ladd hi, at_ladd hi, at_ladd (by omega), Int.add_assoc]
theorem zero_mul' (h : 0 < a.length) : nmul (zer0 a.length) a = zer0 a.length := by
  refine list_ext0 (by simp) fun i hi => ?_
  have hi : i < a.length := by simpa using hi
  unfold nmul
  rw [tab_at (by simpa using hi), at_zer0]
  exact sm_zero fun i _ => sm_zero fun j _ => by rw [at_zer0, Int.zero_mul, Int.mul_zero]
end
/-! ### the greatest -/
theorem maxL_ge : ∀ {l : List Int} {x : Int}, x ∈ l → x ≤ maxL l
  | [a], x, h => by
    obtain rfl : x = a := by simpa using h
    exact Int.le_refl _
  | a :: b :: r, x, h => by
    have ih := fun y hy => maxL_ge (l := b :: r) (x := y) hy
    unfold maxL
    rcases List.mem_cons.mp h with rfl | h
    · split <;> omega
    · have := ih x h
      split <;> omega
theorem maxL_mem : ∀ {l : List Int}, l ≠ [] → maxL l ∈ l
  | [a], _ => by simp [maxL]
  | a :: b :: r, _ => by
    have ih := maxL_mem (l := b :: r) (by simp)
    unfold maxL
    split
    · exact List.mem_cons_of_mem _ ih
    · exact List.mem_cons_self ..
/-- the greatest absolute value -/
def nm (a : List Int) : Int := maxL (a.map iabs)
theorem imaxL_ok {l : List Int} (h : l ≠ []) : imaxL l = .ok (maxL l) := by
  cases l with
  | nil => exact absurd rfl h
  | cons a r => unfold imaxL; rfl
theorem nm_le {a : List Int} {m : Int} (h : a ≠ []) : nm a ≤ m ↔ Nb a m := by
  unfold nm
  constructor
  · intro hm i hi
    refine Int.le_trans (maxL_ge ?_) hm
    exact List.mem_map_of_mem (f := iabs) (List.mem_of_getElem? (get_at0 hi))
  · intro hb
    obtain ⟨x, hx, e⟩ := List.mem_map.mp (maxL_mem (l := a.map iabs) (by simpa using h))
    obtain ⟨i, hi⟩ := List.getElem?_of_mem hx
    rw [← e, ← at0_some hi]
    exact hb i (List.getElem?_eq_some_iff.mp hi).1
theorem nm_nb {a : List Int} (h : a ≠ []) : Nb a (nm a) := (nm_le h).mp (Int.le_refl _)
theorem nm_eq {a b : List Int} (ha : a ≠ []) (hb : b ≠ []) (h : ∀ m, Nb a m ↔ Nb b m) : nm a = nm b :=
  Int.le_antisymm ((nm_le ha).mpr ((h _).mpr (nm_nb hb))) ((nm_le hb).mpr ((h _).mp (nm_nb ha)))
theorem sum_map {a : List Int} {g : Int → Int} : (a.map g).sum = sm a.length fun i => g (at0 a i) := by
  have key : ∀ l : List Int, ∀ k : Int, (l.map g).foldr (· + ·) 0 = sm l.length fun i => g (at0 l i) := by
    intro l
    induction l with
    | nil => intro _; rfl
    | cons x l ih =>
      intro k
      show g x + (l.map g).foldr (· + ·) 0 = sm (l.length + 1) _
      rw [ih k]
      have e : ∀ n : Nat, ∀ f : Nat → Int, sm (n + 1) f = f 0 + sm n fun i => f (i + 1) := by
        intro n f
        induction n with
        | zero => show 0 + f 0 = f 0 + 0; omega
        | succ n ih =>
          show sm (n + 1) f + f (n + 1) = f 0 + (sm n (fun i => f (i + 1)) + f (n + 1))
          rw [ih]; omega
      rw [e]
      rfl
  rw [List.sum_eq_foldr, key a 0]
theorem n1_sum (a : List Int) : (a.map iabs).sum = n1 a := sum_map
/-! loops that fold -/
theorem tFor_fold {α σ β ρ : Type} {f : α → σ → TF σ σ ρ} (g : σ → α → σ) (P : Nat → σ → Prop) {xs : List α} {s : σ} (h : P 0 s) (st : ∀ i x s, xs[i]? = some x → P i s → (f x s = .nx (g s x) ∨ f x s = .ct (g s x)) ∧ P (i + 1) (g s x)) : (tFor xs s f : TF β σ ρ) = .nx (xs.foldl g s) := by
  have key : ∀ (l : List α) (k : Nat) (s : σ), (∀ i x, l[i]? = some x → xs[k + i]? = some x) → P k s → (tFor l s f : TF β σ ρ) = .nx (l.foldl g s) := by
    intro l
    induction l with
    | nil => intro k s _ _; exact tf_nil
    | cons x l ih =>
      intro k s hx hp
      obtain ⟨e, hp'⟩ := st k x s (hx 0 x rfl) hp
      have r := ih (k + 1) (g s x) (fun i y hy => by
        have := hx (i + 1) y (by simpa using hy)
        rwa [show k + (i + 1) = k + 1 + i by omega] at this) hp'
      rcases e with e | e
      · rw [tf_nx e]; exact r
      · rw [tf_ct e]; exact r
  exact key xs 0 s (fun i x hx => by rwa [Nat.zero_add]) h
theorem Sm.ex {α δ : Type} {e : α → δ} {d : Res δ} {r : Res α} {er : Er} (s : Sm e d r) (h : r = .exc er) : d = .exc er := by rw [h] at s; exact s
theorem Sm.va {α δ : Type} {e : α → δ} {d : Res δ} {r : Res α} {x : α} (s : Sm e d r) (h : r = .ok x) : d = .ok (e x) := by rw [h] at s; exact s
theorem items_lst {α : Type} [Enc α] {xs : List α} : itemsD (Enc.enc xs) = .ok (xs.map enc) := rfl
theorem n1_ladd {a b : List Int} (h : b.length = a.length) : n1 (ladd a b) ≤ n1 a + n1 b := by
  unfold n1
  rw [ladd_len, h, ← sm_add]
  refine sm_le fun i hi => ?_
  rw [at_ladd hi]
  exact iabs_add _ _
theorem n1_at {a : List Int} {i : Nat} (h : i < a.length) : iabs (at0 a i) ≤ n1 a := sm_ge (f := fun i => iabs (at0 a i)) h fun i _ => iabs_nn _
/-- items of at most k bits, all together -/
theorem Sz.of_n1 {a : List Int} {k : Nat} (h : Sz k (n1 a)) : ∀ x ∈ a, Sz k x := fun x hx => by
  obtain ⟨i, hi⟩ := List.getElem?_of_mem hx
  have e := at0_some hi
  have q := n1_at (List.getElem?_eq_some_iff.mp hi).1
  rw [e] at q
  exact Sz.le h (by rw [iabs_natAbs] at q; have := n1_nn a; omega)
theorem Sz.mul_n1 {a b : List Int} {k l : Nat} (ha : Sz k (n1 a)) (hb : Sz l (n1 b)) (h : 0 < a.length) (hl : b.length = a.length) : Sz (k + l) (n1 (nmul a b)) :=
  Sz.of_range (Sz.mul ha hb) (n1_nn _) (VT.mul_n1 h hl)
theorem Sz.add_n1 {a b : List Int} {k : Nat} (ha : Sz k (n1 a)) (hb : Sz k (n1 b)) (hl : b.length = a.length) : Sz (k + 1) (n1 (ladd a b)) :=
  Sz.of_range (Sz.add ha hb) (n1_nn _) (n1_ladd hl)
theorem nb_mem {a : List Int} {m : Int} : Nb a m ↔ ∀ x ∈ a, -m ≤ x ∧ x ≤ m := by
  constructor
  · intro h x hx
    obtain ⟨i, hi⟩ := List.getElem?_of_mem hx
    have := h i (List.getElem?_eq_some_iff.mp hi).1
    rw [at0_some hi, iabs_le] at this
    exact this
  · intro h i hi
    rw [iabs_le]
    exact h _ (List.mem_of_getElem? (get_at0 hi))
end VT
/-! VNum: loops that end early; Euclid, powers, primes. -/
namespace VT
open PySem hiding Env
open VL Enc
section
variable {α β σ τ ρ : Type} [Enc ρ]
/-- what one turn of a loop may come to -/
def Turn (Q : TF β τ ρ → Prop) (k : σ → TF β τ ρ) (N : σ → Prop) (r : TF σ σ ρ) : Prop :=
  (∃ s', (r = .nx s' ∨ r = .ct s') ∧ N s') ∨ (∃ s', r = .bk s' ∧ Q (k s')) ∨ (∃ x, r = .rt x ∧ Q (.rt x)) ∨ (∃ e, r = .ex e ∧ Q (.ex e))
omit [Enc ρ] in
theorem Turn.nx {Q : TF β τ ρ → Prop} {k : σ → TF β τ ρ} {N : σ → Prop} {s : σ} (h : N s) : Turn Q k N (.nx s) := .inl ⟨s, .inl rfl, h⟩
omit [Enc ρ] in
theorem Turn.bk {Q : TF β τ ρ → Prop} {k : σ → TF β τ ρ} {N : σ → Prop} {s : σ} (h : Q (k s)) : Turn Q k N (.bk s) := .inr (.inl ⟨s, rfl, h⟩)
omit [Enc ρ] in
theorem Turn.rt {Q : TF β τ ρ → Prop} {k : σ → TF β τ ρ} {N : σ → Prop} {x : ρ} (h : Q (.rt x)) : Turn Q k N (.rt x) := .inr (.inr (.inl ⟨x, rfl, h⟩))
omit [Enc ρ] in
theorem Turn.ex {Q : TF β τ ρ → Prop} {k : σ → TF β τ ρ} {N : σ → Prop} {e : Er} (h : Q (.ex e)) : Turn Q k N (.ex e) := .inr (.inr (.inr ⟨e, rfl, h⟩))
omit [Enc ρ] in
theorem for_gen (Q : TF β τ ρ → Prop) (P : Nat → σ → Prop) {f : α → σ → TF σ σ ρ} {xs : List α} {s : σ} {k : σ → TF β τ ρ} (h : P 0 s) (st : ∀ i x s, xs[i]? = some x → P i s → Turn Q k (P (i + 1)) (f x s)) (fin : ∀ s, P xs.length s → Q (k s)) : Q ((tFor xs s f).bind k) := by
  have key : ∀ (l : List α) (j : Nat) (s : σ), (∀ i x, l[i]? = some x → xs[j + i]? = some x) → l.length + j = xs.length → P j s → Q ((tFor l s f).bind k) := by
    intro l
    induction l with
    | nil =>
      intro j s _ hl hp
      have e : j = xs.length := by simpa using hl
      exact fin s (e ▸ hp)
    | cons x l ih =>
      intro j s hx hl hp
      have ih' := fun s' hp' => ih (j + 1) s' (fun i y hy => by
        have := hx (i + 1) y (by simpa using hy)
        rwa [show j + (i + 1) = j + 1 + i by omega] at this) (by simp at hl; omega) hp'
      rw [tf_cons]
      rcases st j x s (hx 0 x rfl) hp with ⟨s', e, hp'⟩ | ⟨s', e, q⟩ | ⟨r, e, q⟩ | ⟨er, e, q⟩
      · rcases e with e | e <;> rw [e] <;> exact ih' s' hp'
      · rw [e]; exact q
      · rw [e]; exact q
      · rw [e]; exact q
  exact key xs 0 s (fun i x hx => by rwa [Nat.zero_add]) (by simp) h
theorem while_gen (Q : TF β τ ρ → Prop) (I : σ → Prop) (m : σ → Nat) {tq : σ → Res Bool} {f : σ → TF σ σ ρ} {s : σ} {k : σ → TF β τ ρ} (h : I s)
    (st : ∀ s, I s → (tq s = .ok false ∧ Q (k s)) ∨ (tq s = .ok true ∧ Turn Q k (fun s' => I s' ∧ m s' < m s) (f s))) : Q ((tWhile tq s f).bind k) := by
  have key : ∀ (n : Nat) (s : σ), m s ≤ n → I s → ∃ (j : Nat) (r : TF β σ ρ), tWhileN tq f j s = r ∧ r ≠ .stuck ∧ Q (r.bind k) := by
    intro n
    induction n using Nat.strongRecOn with
    | _ n ih =>
      intro s hm hs
      rcases st s hs with ⟨e, q⟩ | ⟨e, t⟩
      · refine ⟨1, .nx s, ?_, nofun, q⟩
        unfold tWhileN
        rw [e]; rfl
      · rcases t with ⟨s', e2, i', hl⟩ | ⟨s', e2, q⟩ | ⟨r, e2, q⟩ | ⟨er, e2, q⟩
        · obtain ⟨j, r, h1, h2, h3⟩ := ih (m s') (by omega) s' (Nat.le_refl _) i'
          refine ⟨j + 1, r, ?_, h2, h3⟩
          unfold tWhileN
          rw [e]
          rcases e2 with e2 | e2
          · show (match f s with | .nx s' => tWhileN tq f j s' | .ct s' => tWhileN tq f j s' | .bk s' => .nx s' | .rt r => .rt r | .ex e => .ex e | .stuck => .stuck) = r
            rw [e2]; exact h1
          · show (match f s with | .nx s' => tWhileN tq f j s' | .ct s' => tWhileN tq f j s' | .bk s' => .nx s' | .rt r => .rt r | .ex e => .ex e | .stuck => .stuck) = r
            rw [e2]; exact h1
        · refine ⟨1, .nx s', ?_, nofun, q⟩
          unfold tWhileN
          rw [e]
          show (match f s with | .nx s' => tWhileN tq f 0 s' | .ct s' => tWhileN tq f 0 s' | .bk s' => .nx s' | .rt r => .rt r | .ex e => .ex e | .stuck => .stuck) = _
          rw [e2]
        · refine ⟨1, .rt r, ?_, nofun, q⟩
          unfold tWhileN
          rw [e]
          show (match f s with | .nx s' => tWhileN tq f 0 s' | .ct s' => tWhileN tq f 0 s' | .bk s' => .nx s' | .rt r => .rt r | .ex e => .ex e | .stuck => .stuck) = _
          rw [e2]
        · refine ⟨1, .ex er, ?_, nofun, q⟩
          unfold tWhileN
          rw [e]
          show (match f s with | .nx s' => tWhileN tq f 0 s' | .ct s' => tWhileN tq f 0 s' | .bk s' => .nx s' | .rt r => .rt r | .ex e => .ex e | .stuck => .stuck) = _
          rw [e2]
  obtain ⟨j, r, h1, h2, h3⟩ := key (m s) s (Nat.le_refl _) h
  rw [tWhile_of j h1 h2]
  exact h3
omit [Enc ρ] in
@[simp] theorem unw_some {x : α} {k : α → TF β σ ρ} : TF.unw (some x) k = k x := nrf rfl
end
/-! ### congruences -/
theorem emod_of {a b k : Int} (c : Int) (h : a = b + k * c) : a % k = b % k := by rw [h, Int.add_mul_emod_self_left]
theorem mul_emod2 (a b k : Int) : (a % k * (b % k)) % k = (a * b) % k := (Int.mul_emod a b k).symm
theorem mul_emod_l (a b k : Int) : (a % k * b) % k = (a * b) % k := by rw [Int.mul_emod, Int.emod_emod, ← Int.mul_emod]
theorem mul_emod_r (a b k : Int) : (a * (b % k)) % k = (a * b) % k := by rw [Int.mul_emod, Int.emod_emod, ← Int.mul_emod]
theorem pow_emod (a k : Int) : ∀ n : Nat, (a % k) ^ n % k = a ^ n % k
  | 0 => by simp
  | n + 1 => by rw [Int.pow_succ, Int.pow_succ, Int.mul_emod, pow_emod a k n, Int.emod_emod, ← Int.mul_emod]
/-! ### primes by trying -/
def Pr (n : Int) : Prop := 2 ≤ n ∧ ∀ d : Int, 2 ≤ d → d * d ≤ n → n % d ≠ 0
noncomputable def prB (n : Int) : Bool := by classical exact decide (Pr n)
theorem prB_true {n : Int} : prB n = true ↔ Pr n := by classical exact decide_eq_true_iff
theorem prB_t {n : Int} (h : Pr n) : prB n = true := prB_true.mpr h
theorem prB_f {n : Int} (h : ¬ Pr n) : prB n = false := by
  cases e : prB n
  · rfl
  · exact absurd (prB_true.mp e) h
theorem sq_lt {a b : Int} (ha : 0 ≤ a) (h : a < b) : a * a < b * b := by
  have h1 : a * a ≤ a * b := Int.mul_le_mul_of_nonneg_left (Int.le_of_lt h) ha
  have h2 : a * b < b * b := Int.mul_lt_mul_of_pos_right h (by omega)
  omega
theorem sq_le {a b : Int} (ha : 0 ≤ a) (h : a ≤ b) : a * a ≤ b * b := Int.mul_le_mul h h ha (by omega)
/-! ### Euclid -/
theorem nat_gcd_step (x y : Nat) : Nat.gcd y (x % y) = Nat.gcd x y := by rw [Nat.gcd_comm x y, Nat.gcd_rec y x, Nat.gcd_comm]
end VT
/-! VPrime: primes, roots of polynomials modulo a prime, Fermat, numbers whose power is -1, sums of powers. -/
namespace VT
open PySem hiding Env
open VL Enc
/-! ### divisors -/
theorem pr_div {p d : Int} (hp : Pr p) (hd : 1 ≤ d) (h : d ∣ p) : d = 1 ∨ d = p := by
  obtain ⟨e, he⟩ := h
  have p2 := hp.1
  have e1 : 1 ≤ e := by
    by_cases c : 1 ≤ e
    · exact c
    · have : d * e ≤ d * 0 := Int.mul_le_mul_of_nonneg_left (by omega) (by omega)
      omega
  by_cases c1 : d = 1
  · exact .inl c1
  · by_cases c2 : e = 1
    · right; rw [he, c2, Int.mul_one]
    · exfalso
      by_cases c3 : d ≤ e
      · have : d * d ≤ d * e := Int.mul_le_mul_of_nonneg_left c3 (by omega)
        exact hp.2 d (by omega) (by omega) (by rw [he]; exact Int.mul_emod_right _ _)
      · have : e * e ≤ d * e := Int.mul_le_mul_of_nonneg_right (by omega) (by omega)
        exact hp.2 e (by omega) (by omega) (by rw [he, Int.mul_comm]; exact Int.mul_emod_right _ _)
theorem pr_cop {p a : Int} (hp : Pr p) (h : ¬ p ∣ a) : Nat.gcd p.natAbs a.natAbs = 1 := by
  have p2 := hp.1
  have g1 : ((Nat.gcd p.natAbs a.natAbs : Nat) : Int) ∣ p := Int.gcd_dvd_left p a
  have g2 : ((Nat.gcd p.natAbs a.natAbs : Nat) : Int) ∣ a := Int.gcd_dvd_right p a
  have g0 : 0 < Nat.gcd p.natAbs a.natAbs := Nat.gcd_pos_of_pos_left _ (by omega)
  rcases pr_div hp (by omega) g1 with e | e
  · omega
  · exact absurd (e ▸ g2) h
theorem euclid {p a b : Int} (hp : Pr p) (h : p ∣ a * b) : p ∣ a ∨ p ∣ b := by
  by_cases ha : p ∣ a
  · exact .inl ha
  · right
    have c := pr_cop hp ha
    have h2 : p.natAbs ∣ a.natAbs * b.natAbs := by
      rw [← Int.natAbs_mul]
      exact Int.natAbs_dvd_natAbs.mpr h
    exact Int.natAbs_dvd_natAbs.mp (Nat.Coprime.dvd_of_dvd_mul_left c h2)
theorem not_dvd {p x : Int} (h1 : 0 < x) (h2 : x < p) : ¬ p ∣ x := fun h => by
  have := Int.le_of_dvd h1 h
  omega
/-! ### roots -/
/-- polynomial functions with their leading coefficient -/
def PolyF : Nat → Int → (Int → Int) → Prop
  | 0, l, P => ∀ x, P x = l
  | d + 1, l, P => ∃ (Q : Int → Int) (c : Int), PolyF d l Q ∧ ∀ x, P x = c + x * Q x
theorem PolyF.add {r : Int} : ∀ {d : Nat} {l m : Int} {A B : Int → Int}, PolyF (d + 1) l A → PolyF d m B → PolyF (d + 1) l (fun x => A x + r * B x)
  | 0, l, m, A, B, ⟨Q, c, hq, ha⟩, hb => ⟨Q, c + r * m, hq, fun x => by show A x + r * B x = _; rw [ha, hb x]; omega⟩
  | d + 1, l, m, A, B, ⟨Q, c, hq, ha⟩, ⟨Q', c', hq', hb⟩ => ⟨fun x => Q x + r * Q' x, c + r * c', PolyF.add hq hq', fun x => by
      show A x + r * B x = c + r * c' + x * (Q x + r * Q' x)
      rw [ha, hb, Int.mul_add, Int.mul_add, Int.mul_left_comm r x]
      omega⟩
theorem PolyF.fac : ∀ {d : Nat} {l : Int} {P : Int → Int}, PolyF (d + 1) l P → ∀ r, ∃ Q, PolyF d l Q ∧ ∀ x, P x - P r = (x - r) * Q x
  | 0, l, P, ⟨Q, c, hq, hP⟩, r => ⟨Q, hq, fun x => by
      rw [hP, hP, hq x, hq r, Int.sub_mul]
      omega⟩
  | d + 1, l, P, ⟨P1, c, h1, hP⟩, r => by
    obtain ⟨Q1, hq, e⟩ := PolyF.fac h1 r
    refine ⟨fun x => P1 x + r * Q1 x, h1.add hq, fun x => ?_⟩
    have e1 := e x
    rw [hP, hP, Int.mul_add, Int.mul_left_comm (x - r) r, ← e1, Int.mul_sub, Int.sub_mul]
    omega
theorem PolyF.pow : ∀ m : Nat, PolyF m 1 (fun x => x ^ m)
  | 0 => fun x => Int.pow_zero x
  | m + 1 => ⟨fun x => x ^ m, 0, PolyF.pow m, fun x => by show x ^ (m + 1) = _; rw [Int.pow_succ, Int.mul_comm, Int.zero_add]⟩
theorem PolyF.pow1 (m : Nat) : PolyF (m + 1) 1 (fun x => x ^ (m + 1) - 1) := ⟨fun x => x ^ m, -1, PolyF.pow m, fun x => by show x ^ (m + 1) - 1 = -1 + x * x ^ m; rw [Int.pow_succ, Int.mul_comm]; omega⟩
theorem roots_le {p : Int} (hp : Pr p) : ∀ (d : Nat) (l : Int) (P : Int → Int), PolyF d l P → ¬ p ∣ l → ∀ rs : List Int, rs.Pairwise (fun a b => ¬ p ∣ b - a) → (∀ r ∈ rs, p ∣ P r) → rs.length ≤ d
  | 0, l, P, hP, hl, [], _, _ => Nat.le_refl _
  | 0, l, P, hP, hl, r :: rs, _, h => absurd (hP r ▸ h r List.mem_cons_self) hl
  | d + 1, l, P, hP, hl, [], _, _ => Nat.zero_le _
  | d + 1, l, P, hP, hl, r :: rs, hd, h => by
    obtain ⟨Q, hq, e⟩ := hP.fac r
    obtain ⟨d1, d2⟩ := List.pairwise_cons.mp hd
    have := roots_le hp d l Q hq hl rs d2 fun x hx => by
      have h1 := Int.dvd_sub (h x (List.mem_cons_of_mem _ hx)) (h r List.mem_cons_self)
      rw [e] at h1
      rcases euclid hp h1 with q | q
      · exact absurd q (d1 x hx)
      · exact q
    rw [List.length_cons]; omega
/-! ### Fermat -/
def prodL (l : List Int) : Int := l.foldr (· * ·) 1
theorem prodL_perm {l m : List Int} (h : l.Perm m) : prodL l = prodL m := by
  induction h with
  | nil => rfl
  | cons x _ ih => exact congrArg (x * ·) ih
  | swap x y l => exact Int.mul_left_comm _ _ _
  | trans _ _ h1 h2 => exact h1.trans h2
theorem perm_of_sub : ∀ {l m : List Int}, l.Nodup → (∀ x ∈ l, x ∈ m) → m.length ≤ l.length → l.Perm m
  | [], m, _, _, hl => by
    have : m = [] := List.length_eq_zero_iff.mp (by simpa using hl)
    rw [this]
  | x :: l, m, hn, hs, hl => by
    obtain ⟨n1, n2⟩ := List.nodup_cons.mp hn
    have hx := hs x List.mem_cons_self
    have hp := List.perm_cons_erase hx
    have := perm_of_sub (l := l) (m := m.erase x) n2 (fun y hy => by
      have ne : y ≠ x := fun q => n1 (q ▸ hy)
      exact (List.mem_erase_of_ne ne).mpr (hs y (List.mem_cons_of_mem _ hy))) (by
      rw [List.length_erase_of_mem hx]
      rw [List.length_cons] at hl
      omega)
    exact (this.cons x).trans hp.symm
theorem rng_pair {lo : Int} : ∀ {n : Nat}, (rng lo n).Pairwise (fun a b => a < b) := fun {n} => by
  unfold rng
  rw [List.pairwise_map]
  exact (List.pairwise_lt_range).imp fun {a b} h => by omega
theorem prodL_pow {b p : Int} : ∀ l : List Int, prodL (l.map fun x => b * x % p) % p = (b ^ l.length * prodL l) % p
  | [] => by simp [prodL]
  | x :: l => by
    show (b * x % p * prodL (l.map fun x => b * x % p)) % p = (b ^ (l.length + 1) * (x * prodL l)) % p
    rw [mul_emod_l, ← mul_emod_r, prodL_pow l, mul_emod_r, Int.pow_succ]
    congr 1
    rw [Int.mul_comm (b ^ l.length) b, Int.mul_assoc, Int.mul_assoc, Int.mul_left_comm x]
theorem prodL_ndvd {p : Int} (hp : Pr p) : ∀ l : List Int, (∀ x ∈ l, ¬ p ∣ x) → ¬ p ∣ prodL l
  | [], _, h => by
    have := Int.le_of_dvd (by decide) (show p ∣ 1 from h)
    have := hp.1
    omega
  | x :: l, hx, h => by
    rcases euclid hp (show p ∣ x * prodL l from h) with q | q
    · exact hx x List.mem_cons_self q
    · exact prodL_ndvd hp l (fun y hy => hx y (List.mem_cons_of_mem _ hy)) q
theorem dvd_of_emod {a b p : Int} (h : a % p = b % p) : p ∣ a - b := Int.dvd_of_emod_eq_zero (Int.emod_eq_emod_iff_emod_sub_eq_zero.mp h)
theorem emod_of_dvd {a b p : Int} (h : p ∣ a - b) : a % p = b % p := Int.emod_eq_emod_iff_emod_sub_eq_zero.mpr (Int.emod_eq_zero_of_dvd h)
theorem fermat {p b : Int} (hp : Pr p) (hb : ¬ p ∣ b) : b ^ (p - 1).toNat % p = 1 % p := by
  have p2 := hp.1
  have mem : ∀ x, x ∈ rng 1 (p - 1).toNat ↔ 1 ≤ x ∧ x < p := fun x => by rw [rng_mem]; omega
  have nd : ∀ x ∈ rng 1 (p - 1).toNat, ¬ p ∣ x := fun x hx => not_dvd (by have := (mem x).mp hx; omega) ((mem x).mp hx).2
  have perm : ((rng 1 (p - 1).toNat).map fun x => b * x % p).Perm (rng 1 (p - 1).toNat) := by
    refine perm_of_sub ?_ (fun y hy => ?_) (by simp)
    · unfold List.Nodup
      rw [List.pairwise_map]
      refine rng_pair.imp_of_mem fun {a b'} ha hb' hlt => ?_
      show b * a % p ≠ b * b' % p
      intro heq
      have h1 := dvd_of_emod heq.symm
      rw [← Int.mul_sub] at h1
      rcases euclid hp h1 with q | q
      · exact hb q
      · exact not_dvd (by omega) (by have := (mem a).mp ha; have := (mem b').mp hb'; omega) q
    · obtain ⟨x, hx, rfl⟩ := List.mem_map.mp hy
      rw [mem]
      have a0 := Int.emod_nonneg (b * x) (show p ≠ 0 by omega)
      have a1 := Int.emod_lt_of_pos (b * x) (show 0 < p by omega)
      have ne : b * x % p ≠ 0 := fun q => by
        rcases euclid hp (Int.dvd_of_emod_eq_zero q) with q | q
        · exact hb q
        · exact nd x hx q
      omega
  have e1 := prodL_pow (b := b) (p := p) (rng 1 (p - 1).toNat)
  rw [prodL_perm perm, rng_len] at e1
  have e2 := dvd_of_emod e1.symm
  have e3 : b ^ (p - 1).toNat * prodL (rng 1 (p - 1).toNat) - prodL (rng 1 (p - 1).toNat) = (b ^ (p - 1).toNat - 1) * prodL (rng 1 (p - 1).toNat) := by
    rw [Int.sub_mul, Int.one_mul]
  rw [e3] at e2
  rcases euclid hp e2 with q | q
  · exact emod_of_dvd q
  · exact absurd q (prodL_ndvd hp _ nd)
/-- a number whose power is -1 -/
theorem nonres {p : Int} (hp : Pr p) (h3 : 3 ≤ p) (m : Nat) (hm : p = 2 * m + 1) : ∃ b : Int, 2 ≤ b ∧ b < p ∧ b ^ m % p = p - 1 := by
  have p2 := hp.1
  by_cases ex : ∃ b : Int, 2 ≤ b ∧ b < p ∧ b ^ m % p = p - 1
  · exact ex
  · exfalso
    have all : ∀ r ∈ rng 1 (p - 1).toNat, p ∣ r ^ m - 1 := fun r hr => by
      have hr' := rng_mem.mp hr
      by_cases r1 : r = 1
      · rw [r1, Int.one_pow]; exact ⟨0, by simp⟩
      · have nd : ¬ p ∣ r := not_dvd (by omega) (by omega)
        have f := dvd_of_emod (fermat hp nd)
        have e : r ^ (p - 1).toNat - 1 = (r ^ m - 1) * (r ^ m + 1) := by
          rw [show (p - 1).toNat = m + m by omega, Int.pow_add, Int.sub_mul, Int.mul_add]
          omega
        rw [e] at f
        rcases euclid hp f with q | q
        · exact q
        · exfalso
          refine ex ⟨r, by omega, by omega, ?_⟩
          have := emod_of_dvd (a := r ^ m) (b := p - 1) (p := p) (by
            rw [show r ^ m - (p - 1) = (r ^ m + 1) - p by omega]
            exact Int.dvd_sub q (Int.dvd_refl p))
          rw [this, Int.emod_eq_of_lt (by omega) (by omega)]
    have m1 : 1 ≤ m := by omega
    have pf : PolyF m 1 (fun x => x ^ m - 1) := by
      obtain ⟨k, rfl⟩ : ∃ k, m = k + 1 := ⟨m - 1, by omega⟩
      exact PolyF.pow1 k
    have := roots_le hp m 1 _ pf (not_dvd (by decide) (by omega)) (rng 1 (p - 1).toNat) (by
      refine rng_pair.imp_of_mem fun {a b'} ha hb hlt => ?_
      have ha := rng_mem.mp ha
      have hb := rng_mem.mp hb
      exact not_dvd (by omega) (by omega)) all
    rw [rng_len] at this
    omega
/-! ### congruences of sums and powers -/
theorem pow_cong {a b p : Int} (h : a % p = b % p) (k : Nat) : a ^ k % p = b ^ k % p := by rw [← pow_emod a, h, pow_emod]
theorem mul_cong {a b c d p : Int} (h : a % p = b % p) (g : c % p = d % p) : (a * c) % p = (b * d) % p := by rw [Int.mul_emod, h, g, ← Int.mul_emod]
theorem add_cong {a b c d p : Int} (h : a % p = b % p) (g : c % p = d % p) : (a + c) % p = (b + d) % p := by rw [Int.add_emod, h, g, ← Int.add_emod]
theorem sm_cong {p : Int} {f g : Nat → Int} : ∀ {n : Nat}, (∀ i, i < n → f i % p = g i % p) → sm n f % p = sm n g % p
  | 0, _ => rfl
  | n + 1, h => add_cong (sm_cong fun i hi => h i (by omega)) (h n (by omega))
theorem sm_shift : ∀ (n : Nat) (f : Nat → Int), sm (n + 1) f = f 0 + sm n fun i => f (i + 1)
  | 0, f => by show 0 + f 0 = f 0 + 0; omega
  | n + 1, f => by
    show sm (n + 1) f + f (n + 1) = f 0 + (sm n (fun i => f (i + 1)) + f (n + 1))
    rw [sm_shift n f]; omega
theorem geo (W : Int) : ∀ n : Nat, (W - 1) * sm n (fun i => W ^ i) = W ^ n - 1
  | 0 => by simp [sm]
  | n + 1 => by
    show (W - 1) * (sm n (fun i => W ^ i) + W ^ n) = _
    rw [Int.mul_add, geo W n, Int.pow_succ, Int.sub_mul, Int.one_mul, Int.mul_comm W]; omega
theorem geo_zero {p W : Int} (hp : Pr p) {n : Nat} (h1 : W ^ n % p = 1 % p) (h2 : ¬ W % p = 1 % p) : sm n (fun i => W ^ i) % p = 0 := by
  have d := dvd_of_emod h1
  rw [← geo] at d
  rcases euclid hp d with q | q
  · exact absurd (emod_of_dvd q) h2
  · exact Int.emod_eq_zero_of_dvd q
theorem geo_one {p W : Int} {n : Nat} (h : W % p = 1 % p) : sm n (fun i => W ^ i) % p = (n : Int) % p := by
  have : sm n (fun i => W ^ i) % p = sm n (fun _ => 1) % p := sm_cong fun i _ => by rw [pow_cong h, Int.one_pow]
  rw [this, sm_const, Int.mul_one]
theorem two_odd : ∀ d : Nat, 0 < d → ∃ j o : Nat, d = 2 ^ j * o ∧ o % 2 = 1 := fun d => by
  induction d using Nat.strongRecOn with
  | _ d ih =>
    intro h
    by_cases c : d % 2 = 1
    · exact ⟨0, d, by simp, c⟩
    · obtain ⟨j, o, e, ho⟩ := ih (d / 2) (by omega) (by omega)
      refine ⟨j + 1, o, ?_, ho⟩
      rw [Nat.pow_succ, Nat.mul_right_comm, ← e]; omega
theorem neg_odd {o : Nat} (h : o % 2 = 1) : (-1 : Int) ^ o = -1 := by
  obtain ⟨k, rfl⟩ : ∃ k, o = 2 * k + 1 := ⟨o / 2, by omega⟩
  rw [Int.pow_succ, Int.pow_mul, show (-1 : Int) ^ 2 = 1 by decide, Int.one_pow]; rfl
section
variable {p w u : Int} {e : Nat}
/-- w's power is -1 -/
structure Rt (p w : Int) (e : Nat) : Prop where
  pr : Pr p
  p3 : 3 ≤ p
  pw : w ^ (2 ^ e) % p = -1 % p
theorem Rt.one_ne (h : Rt p w e) : ¬ (1 : Int) % p = -1 % p := fun q => by
  have := Int.le_of_dvd (by decide) (dvd_of_emod q)
  have := h.p3
  omega
theorem Rt.ord (h : Rt p w e) {d : Nat} (h0 : 0 < d) (h1 : d < 2 ^ e) : ¬ w ^ (2 * d) % p = 1 % p := fun q => by
  obtain ⟨j, o, rfl, ho⟩ := two_odd d h0
  have hj : j < e := by
    by_cases c : j < e
    · exact c
    · exfalso
      have a : 2 ^ e ≤ 2 ^ j := Nat.pow_le_pow_right (by decide) (by omega)
      have b : 2 ^ j * 1 ≤ 2 ^ j * o := Nat.mul_le_mul_left _ (by omega)
      omega
  have e1 : (w ^ (2 * (2 ^ j * o))) ^ (2 ^ (e - j - 1)) = (w ^ (2 ^ e)) ^ o := by
    rw [← Int.pow_mul, ← Int.pow_mul]
    congr 1
    have e2 : 2 ^ e = 2 ^ j * 2 ^ (e - j - 1) * 2 := by
      rw [← Nat.pow_add, ← Nat.pow_succ]
      congr 1; omega
    rw [e2]
    ac_rfl
  have a := pow_cong q (2 ^ (e - j - 1))
  rw [e1, Int.one_pow, pow_cong h.pw, neg_odd ho] at a
  exact h.one_ne a.symm
theorem Rt.full (h : Rt p w e) : w ^ (2 * 2 ^ e) % p = 1 % p := by
  rw [Nat.mul_comm, Int.pow_mul, pow_cong h.pw 2]
  rfl
/-- u is the inverse -/
theorem inv_pow (hu : (w * u) % p = 1 % p) (k : Nat) : (w ^ k * u ^ k) % p = 1 % p := by
  rw [← Int.mul_pow, pow_cong hu, Int.one_pow]
theorem inv_sw (hu : (w * u) % p = 1 % p) : (u * w) % p = 1 % p := by rw [Int.mul_comm]; exact hu
theorem Rt.inv (h : Rt p w e) (hu : (w * u) % p = 1 % p) : u ^ (2 ^ e) % p = -1 % p := by
  have a := inv_pow hu (2 ^ e)
  have b := mul_cong h.pw (show u ^ (2 ^ e) % p = u ^ (2 ^ e) % p from rfl)
  rw [a] at b
  have c := mul_cong (show (-1 : Int) % p = -1 % p from rfl) b
  rw [← Int.mul_assoc] at c
  have d : (-1 : Int) * -1 = 1 := by decide
  rw [d, Int.one_mul, Int.mul_one] at c
  exact c.symm
/-- equal powers -/
theorem pow_eq (hu : (w * u) % p = 1 % p) {a b : Nat} (hab : b ≤ a) (h : (w ^ a * u ^ b) % p = 1 % p) : w ^ (a - b) % p = 1 % p := by
  have e1 : w ^ a * u ^ b = w ^ (a - b) * (w ^ b * u ^ b) := by
    rw [← Int.mul_assoc, ← Int.pow_add, show a - b + b = a by omega]
  rw [e1, ← mul_emod_r, inv_pow hu, mul_emod_r, Int.mul_one] at h
  exact h
theorem Rt.ne (h : Rt p w e) (hu : (w * u) % p = 1 % p) {i l : Nat} (hi : i < 2 ^ e) (hl : l < 2 ^ e) (ne : i ≠ l) (c : Nat) : ¬ (w ^ (2 * i + c) * u ^ (2 * l + c)) % p = 1 % p := fun q => by
  by_cases hlt : l < i
  · have := pow_eq hu (by omega) q
    rw [show 2 * i + c - (2 * l + c) = 2 * (i - l) by omega] at this
    exact h.ord (by omega) (by omega) this
  · rw [Int.mul_comm] at q
    have hu' := inv_sw hu
    have := pow_eq hu' (by omega) q
    rw [show 2 * l + c - (2 * i + c) = 2 * (l - i) by omega] at this
    have e1 := inv_pow hu (2 * (l - i))
    rw [← mul_emod_r, this, mul_emod_r, Int.mul_one] at e1
    exact h.ord (by omega) (by omega) e1
/-- sums over the places -/
theorem Rt.sumA (h : Rt p w e) (hu : (w * u) % p = 1 % p) {j k : Nat} (hj : j < 2 ^ e) (hk : k < 2 ^ e) : sm (2 ^ e) (fun i => w ^ (j * (2 * i + 1)) * u ^ (k * (2 * i + 1))) % p = (if j = k then ((2 ^ e : Nat) : Int) else 0) % p := by
  have e1 : ∀ i : Nat, w ^ (j * (2 * i + 1)) * u ^ (k * (2 * i + 1)) = (w ^ j * u ^ k) * ((w ^ j * u ^ k) ^ 2) ^ i := fun i => by
    rw [Int.pow_mul, Int.pow_mul, ← Int.mul_pow, Int.pow_succ, Int.pow_mul, Int.mul_comm]
  rw [sm_ext e1, sm_mul]
  by_cases c : j = k
  · subst c
    have x := inv_pow hu j
    have x2 : (w ^ j * u ^ j) ^ 2 % p = 1 % p := by rw [pow_cong x, Int.one_pow]
    rw [if_pos rfl, ← mul_emod_l, x, mul_emod_l, Int.one_mul, geo_one x2]
  · rw [if_neg c]
    have x2 : ¬ (w ^ j * u ^ k) ^ 2 % p = 1 % p := by
      rw [Int.mul_pow, ← Int.pow_mul, ← Int.pow_mul, Nat.mul_comm j, Nat.mul_comm k]
      have := h.ne hu hj hk c 0
      rwa [Nat.add_zero, Nat.add_zero] at this
    have xn : ((w ^ j * u ^ k) ^ 2) ^ (2 ^ e) % p = 1 % p := by
      rw [← Int.pow_mul, Int.mul_pow, ← Int.pow_mul, ← Int.pow_mul, Nat.mul_comm j, Nat.mul_comm k, show w ^ (2 * 2 ^ e * j) = (w ^ (2 * 2 ^ e)) ^ j from Int.pow_mul, show u ^ (2 * 2 ^ e * k) = (u ^ (2 * 2 ^ e)) ^ k from Int.pow_mul]
      have a := pow_cong h.full j
      have hr : Rt p u e := ⟨h.pr, h.p3, h.inv hu⟩
      have b := pow_cong hr.full k
      rw [Int.one_pow] at a b
      rw [mul_cong a b]
      rfl
    rw [← mul_emod_r, geo_zero h.pr xn x2, Int.mul_zero]
theorem Rt.sumB (h : Rt p w e) (hu : (w * u) % p = 1 % p) {i l : Nat} (hi : i < 2 ^ e) (hl : l < 2 ^ e) : sm (2 ^ e) (fun k => w ^ (k * (2 * i + 1)) * u ^ (k * (2 * l + 1))) % p = (if i = l then ((2 ^ e : Nat) : Int) else 0) % p := by
  have e1 : ∀ k : Nat, w ^ (k * (2 * i + 1)) * u ^ (k * (2 * l + 1)) = (w ^ (2 * i + 1) * u ^ (2 * l + 1)) ^ k := fun k => by
    rw [Nat.mul_comm k, Nat.mul_comm k, Int.pow_mul, Int.pow_mul, ← Int.mul_pow]
  rw [sm_ext e1]
  by_cases c : i = l
  · subst c
    rw [if_pos rfl, geo_one (inv_pow hu _)]
  · rw [if_neg c]
    have x2 := h.ne hu hi hl c 1
    have xn : (w ^ (2 * i + 1) * u ^ (2 * l + 1)) ^ (2 ^ e) % p = 1 % p := by
      rw [Int.mul_pow, ← Int.pow_mul, ← Int.pow_mul, Nat.mul_comm (2 * i + 1), Nat.mul_comm (2 * l + 1), Int.pow_mul, Int.pow_mul]
      have a := pow_cong h.pw (2 * i + 1)
      have b := pow_cong (h.inv hu) (2 * l + 1)
      rw [neg_odd (by omega)] at a b
      rw [mul_cong a b]
      rfl
    rw [geo_zero h.pr xn x2]; rfl
end
/-! ### values at a point -/
def hv (p x : Int) : List Int → Int
  | [] => 0
  | c :: cs => (hv p x cs * x + c) % p
theorem hv_sm (p x : Int) : ∀ a : List Int, hv p x a % p = (sm a.length fun j => at0 a j * x ^ j) % p
  | [] => rfl
  | c :: cs => by
    show (hv p x cs * x + c) % p % p = _
    rw [Int.emod_emod, List.length_cons, sm_shift]
    have e1 : sm cs.length (fun i => at0 (c :: cs) (i + 1) * x ^ (i + 1)) = sm cs.length (fun j => at0 cs j * x ^ j) * x := by
      rw [← sm_mulr]
      refine sm_ext (fun i => ?_) _
      rw [Int.pow_succ, Int.mul_assoc]; rfl
    rw [e1, Int.pow_zero, Int.mul_one, Int.add_comm]
    exact add_cong rfl (mul_cong (hv_sm p x cs) rfl)
theorem hv_range {p x : Int} (hp : 0 < p) : ∀ a : List Int, 0 ≤ hv p x a ∧ hv p x a < p
  | [] => ⟨Int.le_refl _, hp⟩
  | c :: cs => ⟨Int.emod_nonneg _ (by omega), Int.emod_lt_of_pos _ hp⟩
/-- the transform and the way back -/
def trf (p w : Int) (a : List Int) : List Int := tab a.length fun i => hv p (w ^ (2 * i + 1) % p) a
def bkf (p u s : Int) (v : List Int) : List Int := tab v.length fun k => (sm v.length fun i => at0 v i * u ^ (k * (2 * i + 1))) % p * s % p
theorem at_trf {p w : Int} {a : List Int} {i : Nat} (h : i < a.length) : at0 (trf p w a) i % p = (sm a.length fun j => at0 a j * w ^ (j * (2 * i + 1))) % p := by
  unfold trf
  rw [tab_at h, hv_sm]
  refine sm_cong fun j _ => mul_cong rfl ?_
  rw [pow_emod, ← Int.pow_mul, Nat.mul_comm]
theorem bk_trf {p w u s : Int} {e : Nat} (h : Rt p w e) (hu : (w * u) % p = 1 % p) {a : List Int} (hl : a.length = 2 ^ e) (hs : (((2 ^ e : Nat) : Int) * s) % p = 1 % p) : bkf p u s (trf p w a) = a.map fun x => x % p := by
  have lt : (trf p w a).length = a.length := tab_len
  rw [map_tab]
  unfold bkf
  rw [lt]
  refine tab_congr fun k hk => ?_
  have e1 : (sm a.length fun i => at0 (trf p w a) i * u ^ (k * (2 * i + 1))) % p = (sm a.length fun i => sm a.length fun j => at0 a j * (w ^ (j * (2 * i + 1)) * u ^ (k * (2 * i + 1)))) % p := sm_cong fun i hi => by
    rw [mul_cong (at_trf hi) rfl, ← sm_mulr]
    refine congrArg (· % p) (sm_ext (fun j => ?_) _)
    rw [Int.mul_assoc]
  have e2 : (sm a.length fun j => sm a.length fun i => at0 a j * (w ^ (j * (2 * i + 1)) * u ^ (k * (2 * i + 1)))) % p = (sm a.length fun j => at0 a j * (if j = k then ((2 ^ e : Nat) : Int) else 0)) % p := sm_cong fun j hj => by
    rw [sm_mul]
    refine mul_cong rfl ?_
    rw [hl]
    exact h.sumA hu (by omega) (by omega)
  rw [mul_emod_l, ← mul_emod_l, e1, sm_comm, e2, sm_one (k := k) hk (fun j _ ne => by rw [if_neg ne, Int.mul_zero]), if_pos rfl, mul_emod_l, Int.mul_assoc, ← mul_emod_r, hs, mul_emod_r, Int.mul_one]
theorem trf_bk {p w u s : Int} {e : Nat} (h : Rt p w e) (hu : (w * u) % p = 1 % p) {v : List Int} (hl : v.length = 2 ^ e) (hs : (((2 ^ e : Nat) : Int) * s) % p = 1 % p) (hv0 : ∀ x ∈ v, 0 ≤ x ∧ x < p) : trf p w (bkf p u s v) = v := by
  have lt : (bkf p u s v).length = v.length := tab_len
  have p3 := h.p3
  refine list_ext0 (by unfold trf; simp [lt]) fun i hi => ?_
  have hi : i < v.length := by unfold trf at hi; simpa [lt] using hi
  have r : 0 ≤ at0 (trf p w (bkf p u s v)) i ∧ at0 (trf p w (bkf p u s v)) i < p := by
    unfold trf
    rw [tab_at (by omega)]
    exact hv_range (by omega) _
  have rv := hv0 _ (List.mem_of_getElem? (get_at0 hi))
  have key : at0 (trf p w (bkf p u s v)) i % p = at0 v i % p := by
    rw [at_trf (by omega), lt]
    have e1 : (sm v.length fun k => at0 (bkf p u s v) k * w ^ (k * (2 * i + 1))) % p = (sm v.length fun k => sm v.length fun l => (at0 v l * s) * (w ^ (k * (2 * i + 1)) * u ^ (k * (2 * l + 1)))) % p := sm_cong fun k hk => by
      unfold bkf
      rw [tab_at hk, mul_emod_l]
      rw [show ∀ x : Int, x % p * s * w ^ (k * (2 * i + 1)) = x % p * (s * w ^ (k * (2 * i + 1))) from fun x => Int.mul_assoc _ _ _, mul_emod_l, ← sm_mulr]
      refine congrArg (· % p) (sm_ext (fun l => ?_) _)
      rw [Int.mul_assoc, Int.mul_assoc, Int.mul_left_comm (u ^ (k * (2 * l + 1))), Int.mul_comm (u ^ (k * (2 * l + 1)))]
    have e2 : (sm v.length fun l => sm v.length fun k => (at0 v l * s) * (w ^ (k * (2 * i + 1)) * u ^ (k * (2 * l + 1)))) % p = (sm v.length fun l => (at0 v l * s) * (if i = l then ((2 ^ e : Nat) : Int) else 0)) % p := sm_cong fun l hl' => by
      rw [sm_mul]
      refine mul_cong rfl ?_
      rw [hl]
      exact h.sumB hu (by omega) (by omega)
    rw [e1, sm_comm, e2, sm_one (k := i) hi (fun j _ ne => by rw [if_neg (Ne.symm ne), Int.mul_zero]), if_pos rfl, Int.mul_assoc, ← mul_emod_r, Int.mul_comm s, hs, mul_emod_r, Int.mul_one]
  rw [Int.emod_eq_of_lt r.1 r.2, Int.emod_eq_of_lt rv.1 rv.2] at key
  exact key
theorem mod_odd {n : Nat} (hn : 0 < n) (k : Nat) (hk : k % 2 = 1) : ∃ j c : Nat, j < n ∧ k = 2 * n * c + (2 * j + 1) := by
  refine ⟨(k % (2 * n)) / 2, k / (2 * n), ?_, ?_⟩
  · have := Nat.mod_lt k (by omega : 0 < 2 * n)
    omega
  · have a := Nat.div_add_mod k (2 * n)
    have b : k % (2 * n) % 2 = 1 := by rw [Nat.mod_mul_right_mod]; exact hk
    omega
theorem Rt.odd {p w : Int} {e : Nat} (h : Rt p w e) {o : Nat} (ho : o % 2 = 1) : Rt p (w ^ o % p) e := ⟨h.pr, h.p3, by
  rw [pow_emod, ← Int.pow_mul, Nat.mul_comm, Int.pow_mul, pow_cong h.pw, neg_odd ho]⟩
section
variable {p w : Int} {e : Nat}
theorem Rt.ndvd (h : Rt p w e) : ¬ p ∣ w := fun ⟨c, q⟩ => by
  have a := h.pw
  have p3 := h.p3
  rw [q, Int.mul_pow, ← Nat.succ_pred_eq_of_pos (Nat.two_pow_pos e), Int.pow_succ, Int.mul_comm (p ^ _) p, Int.mul_assoc, Int.mul_emod_right] at a
  have := Int.le_of_dvd (by decide) (dvd_of_emod (a := 0) (b := -1) (p := p) (by rw [← a]; simp))
  omega
end
theorem pw_next (x : Int) (i : Nat) : x ^ (2 * (i + 1) + 1) = x ^ (2 * i + 1) * x * x := by
  rw [show 2 * (i + 1) + 1 = 2 * i + 1 + 1 + 1 by omega, Int.pow_succ, Int.pow_succ]
end VT
namespace K05
open PySem VL
/-! def check_modulus(k), line 9: slots 0 k -/
noncomputable def b_check_modulus : VL.Env → Fl :=
 (sIf (qB (dOp2 opLt (dVar 0) (dLit (.int 1))))
 (sRaise .range)
 sNext)
noncomputable def f_check_modulus : List D → Res D := mkFn 1 1 b_check_modulus
/-! def is_prime(number), line 35: slots 0 number, 1 divisor -/
noncomputable def q_is_prime_0 : M Bool :=
 (qB (dOp2 opLe (dOp2 opMul (dVar 1) (dVar 1)) (dVar 0)))
noncomputable def w_is_prime_0 : VL.Env → Fl :=
 (sSeq (sIf (qB (dOp2 opEq (dOp2 opMod (dVar 0) (dVar 1)) (dLit (.int 0))))
 (sRet (dLit (.bl false)))
 sNext)
 (sAsg (dOp2 opAdd (dVar 1) (dLit (.int 2))) (bName 1)))
noncomputable def b_is_prime : VL.Env → Fl :=
 (sSeq (sIf (qB (dOp2 opGe (dVar 0) (dOp2 opShl (dLit (.int 1)) (dLit (.int 32)))))
 (sRaise .range)
 sNext)
 (sSeq (sIf (qB (dOp2 opLt (dVar 0) (dLit (.int 4))))
 (sRet (dOp2 opGt (dVar 0) (dLit (.int 1))))
 sNext)
 (sSeq (sIf (qB (dOp2 opEq (dOp2 opMod (dVar 0) (dLit (.int 2))) (dLit (.int 0))))
 (sRet (dLit (.bl false)))
 sNext)
 (sSeq (sAsg (dLit (.int 3)) (bName 1))
 (sSeq (sWhile q_is_prime_0 w_is_prime_0)
 (sRet (dLit (.bl true))))))))
noncomputable def f_is_prime : List D → Res D := mkFn 1 2 b_is_prime
/-! def check_size(size), line 49: slots 0 size -/
noncomputable def b_check_size : VL.Env → Fl :=
 (sIf (qOr (qNot (qB (dChain opLe opLe (dLit (.int 1)) (dVar 0) (dLit (.int 1024))))) (qB (dOp2 opNe (dOp2 opAnd (dVar 0) (dOp2 opSub (dVar 0) (dLit (.int 1)))) (dLit (.int 0)))))
 (sRaise .range)
 sNext)
noncomputable def f_check_size : List D → Res D := mkFn 1 1 b_check_size
/-! def _law_cell(script, k), line 110: slots 0 script, 1 k -/
noncomputable def b__law_cell : VL.Env → Fl :=
 (sSeq (sIf (qB (dOp2 opLt (dVar 1) (dCall fLen (aCons (dVar 0) aNil))))
 (sRet (dCall fInt (aCons (dOp2 opIx (dVar 0) (dVar 1)) aNil)))
 sNext)
 (sRet (dLit (.int 0))))
noncomputable def f__law_cell : List D → Res D := mkFn 2 2 b__law_cell
/-! def _law_mixed(cell, k), line 114: slots 0 cell, 1 k, 2 x -/
noncomputable def b__law_mixed : VL.Env → Fl :=
 (sSeq (sAsg (dOp2 opMod (dOp2 opAdd (dOp2 opAdd (dOp2 opMul (dCall fInt (aCons (dVar 0) aNil)) (dLit (.int 48271))) (dOp2 opMul (dVar 1) (dLit (.int 69621)))) (dLit (.int 7))) (dLit (.int 2147483647))) (bName 2))
 (sSeq (sAsg (dOp2 opMod (dOp2 opAdd (dOp2 opAdd (dOp2 opMul (dVar 2) (dVar 2)) (dOp2 opMul (dVar 1) (dLit (.int 40692)))) (dLit (.int 3))) (dLit (.int 2147483629))) (bName 2))
 (sSeq (sAsg (dOp2 opMod (dOp2 opAdd (dOp2 opAdd (dOp2 opMul (dVar 2) (dVar 2)) (dOp2 opMul (dVar 1) (dLit (.int 30269)))) (dLit (.int 5))) (dLit (.int 2147483587))) (bName 2))
 (sRet (dOp2 opDiv (dVar 2) (dLit (.int 64)))))))
noncomputable def f__law_mixed : List D → Res D := mkFn 2 3 b__law_mixed
/-! def _law_integer(actual), line 119: slots 0 actual -/
noncomputable def b__law_integer : VL.Env → Fl :=
 (sRet (dAnd (dOp1 (opIsTy "int") (dVar 0)) (dNot (dOp1 (opIsTy "bool") (dVar 0)))))
noncomputable def f__law_integer : List D → Res D := mkFn 1 1 b__law_integer
/-! def _law_is_prime(number), line 145: slots 0 number, 1 divisor -/
noncomputable def w__law_is_prime_0 : VL.Env → Fl :=
 (sSeq (sIf (qB (dOp2 opGt (dOp2 opMul (dVar 1) (dVar 1)) (dVar 0)))
 (sRet (dLit (.bl true)))
 sNext)
 (sIf (qB (dOp2 opEq (dOp2 opMod (dCall fInt (aCons (dVar 0) aNil)) (dVar 1)) (dLit (.int 0))))
 (sRet (dLit (.bl false)))
 sNext))
noncomputable def b__law_is_prime : VL.Env → Fl :=
 (sSeq (sIf (qB (dOp2 opLt (dVar 0) (dLit (.int 2))))
 (sRet (dLit (.bl false)))
 sNext)
 (sSeq (sFor (iRange2 (dLit (.int 2)) (dLit (.int 40000))) (bName 1) w__law_is_prime_0)
 (sRet (dLit (.bl true)))))
noncomputable def f__law_is_prime : List D → Res D := mkFn 1 2 b__law_is_prime
/-! def _law_power(a, exponent, prime), line 164: slots 0 a, 1 exponent, 2 prime, 3 result, 4 turn -/
noncomputable def w__law_power_0 : VL.Env → Fl :=
 (sAsg (dOp2 opMod (dCall fInt (aCons (dOp2 opMul (dVar 3) (dVar 0)) aNil)) (dVar 2)) (bName 3))
noncomputable def b__law_power : VL.Env → Fl :=
 (sSeq (sAsg (dLit (.int 1)) (bName 3))
 (sSeq (sFor (iRange1 (dVar 1)) (bName 4) w__law_power_0)
 (sRet (dVar 3))))
noncomputable def f__law_power : List D → Res D := mkFn 3 5 b__law_power
/-! def _law_size(cell), line 211: slots 0 cell, 1 rest -/
noncomputable def b__law_size : VL.Env → Fl :=
 (sSeq (sAsg (dCall fAbs (aCons (dVar 0) aNil)) (bName 1))
 (sSeq (sIf (qB (dOp2 opEq (dOp2 opMod (dOp2 opDiv (dVar 1) (dLit (.int 60))) (dLit (.int 16))) (dLit (.int 1))))
 (sRet (dOp2 opIx (dLst (aCons (dLit (.int 32)) (aCons (dLit (.int 64)) (aCons (dLit (.int 128)) (aCons (dLit (.int 256)) aNil))))) (dOp2 opMod (dOp2 opDiv (dVar 1) (dLit (.int 960))) (dLit (.int 4)))))
 sNext)
 (sRet (dOp2 opIx (dLst (aCons (dLit (.int 1)) (aCons (dLit (.int 2)) (aCons (dLit (.int 4)) (aCons (dLit (.int 8)) (aCons (dLit (.int 16)) aNil)))))) (dOp2 opMod (dVar 1) (dLit (.int 5)))))))
noncomputable def f__law_size : List D → Res D := mkFn 1 2 b__law_size
/-! def inverse(a, k), line 12: slots 0 a, 1 k, 2 old, 3 now, 4 before, 5 here, 6 part -/
noncomputable def q_inverse_0 : M Bool :=
 (qB (dOp2 opGt (dVar 3) (dLit (.int 0))))
noncomputable def w_inverse_0 : VL.Env → Fl :=
 (sSeq (sAsg (dOp2 opDiv (dVar 2) (dVar 3)) (bName 6))
 (sSeq (sPar 2 3 (dVar 3) (dOp2 opSub (dVar 2) (dOp2 opMul (dVar 6) (dVar 3))))
 (sPar 4 5 (dVar 5) (dOp2 opSub (dVar 4) (dOp2 opMul (dVar 6) (dVar 5))))))
noncomputable def b_inverse : VL.Env → Fl :=
 (sSeq (sExpr (dCall f_check_modulus (aCons (dVar 1) aNil)))
 (sSeq (sPar 2 3 (dVar 1) (dOp2 opMod (dVar 0) (dVar 1)))
 (sSeq (sAsg (dTup (aCons (dLit (.int 0)) (aCons (dLit (.int 1)) aNil))) (bTup (bCons (bName 4) (bCons (bName 5) bNil))))
 (sSeq (sWhile q_inverse_0 w_inverse_0)
 (sSeq (sIf (qB (dOp2 opNe (dVar 2) (dLit (.int 1))))
 (sRaise .notThere)
 sNext)
 (sRet (dOp2 opMod (dVar 4) (dVar 1))))))))
noncomputable def f_inverse : List D → Res D := mkFn 2 7 b_inverse
/-! def power(a, exponent, k), line 23: slots 0 a, 1 exponent, 2 k, 3 result -/
noncomputable def q_power_0 : M Bool :=
 (qB (dOp2 opGt (dVar 1) (dLit (.int 0))))
noncomputable def w_power_0 : VL.Env → Fl :=
 (sSeq (sIf (qB (dOp2 opEq (dOp2 opAnd (dVar 1) (dLit (.int 1))) (dLit (.int 1))))
 (sAsg (dOp2 opMod (dOp2 opMul (dVar 3) (dVar 0)) (dVar 2)) (bName 3))
 sNext)
 (sSeq (sAsg (dOp2 opMod (dOp2 opMul (dVar 0) (dVar 0)) (dVar 2)) (bName 0))
 (sAsg (dOp2 opShr (dVar 1) (dLit (.int 1))) (bName 1))))
noncomputable def b_power : VL.Env → Fl :=
 (sSeq (sIf (qB (dOp2 opLt (dVar 1) (dLit (.int 0))))
 (sRaise .range)
 sNext)
 (sSeq (sExpr (dCall f_check_modulus (aCons (dVar 2) aNil)))
 (sSeq (sAsg (dOp2 opMod (dLit (.int 1)) (dVar 2)) (bName 3))
 (sSeq (sAsg (dOp2 opMod (dVar 0) (dVar 2)) (bName 0))
 (sSeq (sWhile q_power_0 w_power_0)
 (sRet (dVar 3)))))))
noncomputable def f_power : List D → Res D := mkFn 3 4 b_power
/-! def check_prime(prime, size), line 53: slots 0 prime, 1 size -/
noncomputable def b_check_prime : VL.Env → Fl :=
 (sIf (qOr (qB (dOp2 opLt (dVar 0) (dLit (.int 3)))) (qOr (qB (dOp2 opGe (dVar 0) (dOp2 opShl (dLit (.int 1)) (dLit (.int 32))))) (qOr (qB (dOp2 opNe (dOp2 opMod (dVar 0) (dOp2 opMul (dLit (.int 2)) (dVar 1))) (dLit (.int 1)))) (qNot (qTru (dCall f_is_prime (aCons (dVar 0) aNil)))))))
 (sRaise .notThere)
 sNext)
noncomputable def f_check_prime : List D → Res D := mkFn 2 2 b_check_prime
/-! def transform_primes(size, count, least), line 69: slots 0 size, 1 count, 2 least, 3 step, 4 number, 5 found -/
noncomputable def q_transform_primes_0 : M Bool :=
 (qB (dOp2 opLt (lenAt 5) (dVar 1)))
noncomputable def w_transform_primes_0 : VL.Env → Fl :=
 (sSeq (sIf (qTru (dCall f_is_prime (aCons (dVar 4) aNil)))
 (sApp 5 (dVar 4))
 sNext)
 (sAsg (dOp2 opAdd (dVar 4) (dVar 3)) (bName 4)))
noncomputable def b_transform_primes : VL.Env → Fl :=
 (sSeq (sExpr (dCall f_check_size (aCons (dVar 0) aNil)))
 (sSeq (sIf (qNot (qB (dChain opLe opLe (dLit (.int 1)) (dVar 1) (dLit (.int 8)))))
 (sRaise .range)
 sNext)
 (sSeq (sIf (qB (dOp2 opGt (dVar 2) (dOp2 opShl (dLit (.int 1)) (dLit (.int 30)))))
 (sRaise .range)
 sNext)
 (sSeq (sAsg (dOp2 opMul (dLit (.int 2)) (dVar 0)) (bName 3))
 (sSeq (sAsg (dOp2 opAdd (dOp2 opMul (dCall fMax2 (aCons (dLit (.int 0)) (aCons (dOp2 opDiv (dOp2 opSub (dOp2 opAdd (dVar 2) (dVar 3)) (dLit (.int 2))) (dVar 3)) aNil))) (dVar 3)) (dLit (.int 1))) (bName 4))
 (sSeq (sAsg (dLst aNil) (bName 5))
 (sSeq (sWhile q_transform_primes_0 w_transform_primes_0)
 (sRet (dVar 5)))))))))
noncomputable def f_transform_primes : List D → Res D := mkFn 3 6 b_transform_primes
/-! def _law_is_list(actual, due), line 121: slots 0 actual, 1 due, 2 one, 3 other -/
noncomputable def w__law_is_list_0 : VL.Env → Fl :=
 (sIf (qOr (qNot (qTru (dCall f__law_integer (aCons (dVar 2) aNil)))) (qB (dOp2 opNe (dVar 2) (dVar 3))))
 (sRet (dLit (.bl false)))
 sNext)
noncomputable def b__law_is_list : VL.Env → Fl :=
 (sSeq (sIf (qOr (qNot (qTru (dOp1 (opIsTy "list") (dVar 0)))) (qB (dOp2 opNe (dCall fLen (aCons (dVar 0) aNil)) (dCall fLen (aCons (dVar 1) aNil)))))
 (sRet (dLit (.bl false)))
 sNext)
 (sSeq (sFor (iZip (dVar 0) (dVar 1)) (bTup (bCons (bName 2) (bCons (bName 3) bNil))) w__law_is_list_0)
 (sRet (dLit (.bl true)))))
noncomputable def f__law_is_list : List D → Res D := mkFn 2 4 b__law_is_list
/-! def _law_wide(cell, k, most), line 128: slots 0 cell, 1 k, 2 most, 3 number, 4 j -/
noncomputable def w__law_wide_0 : VL.Env → Fl :=
 (sAsg (dOp2 opAdd (dOp2 opMul (dVar 3) (dLit (.int 33554432))) (dCall f__law_mixed (aCons (dVar 0) (aCons (dOp2 opAdd (dVar 1) (dOp2 opMul (dLit (.int 100)) (dVar 4))) aNil)))) (bName 3))
noncomputable def b__law_wide : VL.Env → Fl :=
 (sSeq (sAsg (dOp2 opAdd (dOp2 opMul (dCall f__law_mixed (aCons (dVar 0) (aCons (dVar 1) aNil))) (dLit (.int 33554432))) (dCall f__law_mixed (aCons (dVar 0) (aCons (dOp2 opAdd (dVar 1) (dLit (.int 100))) aNil)))) (bName 3))
 (sSeq (sIf (qB (dOp2 opGe (dVar 2) (dOp2 opShl (dLit (.int 1)) (dLit (.int 45)))))
 (sFor (iRange2 (dLit (.int 2)) (dLit (.int 6))) (bName 4) w__law_wide_0)
 sNext)
 (sRet (dCall fInt (aCons (dVar 3) aNil)))))
noncomputable def f__law_wide : List D → Res D := mkFn 3 5 b__law_wide
/-! def _law_primes(size, count, least), line 154: slots 0 size, 1 count, 2 least, 3 found, 4 number, 5 turn -/
noncomputable def w__law_primes_0 : VL.Env → Fl :=
 (sSeq (sIf (qB (dOp2 opEq (lenAt 3) (dVar 1)))
 sBreak
 sNext)
 (sSeq (sIf (qAnd (qB (dOp2 opEq (dOp2 opMod (dCall fInt (aCons (dOp2 opSub (dVar 4) (dLit (.int 1))) aNil)) (dOp2 opMul (dLit (.int 2)) (dVar 0))) (dLit (.int 0)))) (qTru (dCall f__law_is_prime (aCons (dVar 4) aNil))))
 (sApp 3 (dVar 4))
 sNext)
 (sAsg (dOp2 opAdd (dVar 4) (dLit (.int 1))) (bName 4))))
noncomputable def b__law_primes : VL.Env → Fl :=
 (sSeq (sAsg (dLst aNil) (bName 3))
 (sSeq (sAsg (dCall fMax2 (aCons (dVar 2) (aCons (dLit (.int 2)) aNil))) (bName 4))
 (sSeq (sFor (iRange1 (dLit (.int 200000))) (bName 5) w__law_primes_0)
 (sRet (dVar 3)))))
noncomputable def f__law_primes : List D → Res D := mkFn 3 6 b__law_primes
/-! def _law_values(a, root, prime), line 169: slots 0 a, 1 root, 2 prime, 3 values, 4 i, 5 point, 6 value, 7 one -/
noncomputable def w__law_values_0 : VL.Env → Fl :=
 (sAsg (dOp2 opMod (dCall fInt (aCons (dOp2 opAdd (dOp2 opMul (dVar 6) (dVar 5)) (dVar 7)) aNil)) (dVar 2)) (bName 6))
noncomputable def w__law_values_1 : VL.Env → Fl :=
 (sSeq (sAsg (dCall f__law_power (aCons (dVar 1) (aCons (dOp2 opAdd (dOp2 opMul (dLit (.int 2)) (dVar 4)) (dLit (.int 1))) (aCons (dVar 2) aNil)))) (bName 5))
 (sSeq (sAsg (dLit (.int 0)) (bName 6))
 (sSeq (sFor (iRev (dVar 0)) (bName 7) w__law_values_0)
 (sApp 3 (dVar 6)))))
noncomputable def b__law_values : VL.Env → Fl :=
 (sSeq (sAsg (dLst aNil) (bName 3))
 (sSeq (sFor (iRange1 (dCall fLen (aCons (dVar 0) aNil))) (bName 4) w__law_values_1)
 (sRet (dVar 3))))
noncomputable def f__law_values : List D → Res D := mkFn 3 8 b__law_values
/-! def find_root(prime, size), line 56: slots 0 prime, 1 size, 2 base, 3 root, 4 square, 5 least, 6 _ -/
noncomputable def q_find_root_0 : M Bool :=
 (qB (dOp2 opNe (dCall f_power (aCons (dVar 2) (aCons (dOp2 opDiv (dOp2 opSub (dVar 0) (dLit (.int 1))) (dLit (.int 2))) (aCons (dVar 0) aNil)))) (dOp2 opSub (dVar 0) (dLit (.int 1)))))
noncomputable def w_find_root_0 : VL.Env → Fl :=
 (sAsg (dOp2 opAdd (dVar 2) (dLit (.int 1))) (bName 2))
noncomputable def w_find_root_1 : VL.Env → Fl :=
 (sSeq (sAsg (dOp2 opMod (dOp2 opMul (dVar 3) (dVar 4)) (dVar 0)) (bName 3))
 (sAsg (dCall fMin2 (aCons (dVar 5) (aCons (dVar 3) aNil))) (bName 5)))
noncomputable def b_find_root : VL.Env → Fl :=
 (sSeq (sExpr (dCall f_check_size (aCons (dVar 1) aNil)))
 (sSeq (sExpr (dCall f_check_prime (aCons (dVar 0) (aCons (dVar 1) aNil))))
 (sSeq (sAsg (dLit (.int 2)) (bName 2))
 (sSeq (sWhile q_find_root_0 w_find_root_0)
 (sSeq (sAsg (dCall f_power (aCons (dVar 2) (aCons (dOp2 opDiv (dOp2 opSub (dVar 0) (dLit (.int 1))) (dOp2 opMul (dLit (.int 2)) (dVar 1))) (aCons (dVar 0) aNil)))) (bName 3))
 (sSeq (sAsg (dOp2 opMod (dOp2 opMul (dVar 3) (dVar 3)) (dVar 0)) (bName 4))
 (sSeq (sAsg (dVar 3) (bName 5))
 (sSeq (sFor (iRange1 (dOp2 opSub (dVar 1) (dLit (.int 1)))) (bName 6) w_find_root_1)
 (sRet (dVar 5))))))))))
noncomputable def f_find_root : List D → Res D := mkFn 2 7 b_find_root
/-! def _law_poly(cell, size, most), line 134: slots 0 cell, 1 size, 2 most, 3 left, 4 great, 5 row, 6 k -/
noncomputable def w__law_poly_0 : VL.Env → Fl :=
 (sIf (qAnd (qTru (dVar 4)) (qB (dOp2 opGt (dVar 3) (dLit (.int 0)))))
 (sSeq (sApp 5 (dOp2 opSub (dCall fInt (aCons (dOp2 opMod (dVar 3) (dOp2 opAdd (dOp2 opMul (dLit (.int 2)) (dVar 2)) (dLit (.int 1)))) aNil)) (dVar 2)))
 (sAsg (dOp2 opDiv (dVar 3) (dOp2 opAdd (dOp2 opMul (dLit (.int 2)) (dVar 2)) (dLit (.int 1)))) (bName 3)))
 (sApp 5 (dOp2 opSub (dOp2 opMod (dCall f__law_wide (aCons (dVar 0) (aCons (dVar 6) (aCons (dVar 2) aNil)))) (dOp2 opAdd (dOp2 opMul (dLit (.int 2)) (dVar 2)) (dLit (.int 1)))) (dVar 2))))
noncomputable def b__law_poly : VL.Env → Fl :=
 (sSeq (sAsg (dCall fAbs (aCons (dCall fInt (aCons (dVar 0) aNil)) aNil)) (bName 3))
 (sSeq (sAsg (dOp2 opGe (dVar 3) (dOp2 opPow (dLit (.int 10)) (dLit (.int 18)))) (bName 4))
 (sSeq (sAsg (dLst aNil) (bName 5))
 (sSeq (sFor (iRange1 (dVar 1)) (bName 6) w__law_poly_0)
 (sRet (dVar 5))))))
noncomputable def f__law_poly : List D → Res D := mkFn 3 7 b__law_poly
/-! def transform(a, prime), line 83: slots 0 a, 1 prime, 2 root, 3 square, 4 values, 5 point, 6 _, 7 value, 8 one -/
noncomputable def w_transform_0 : VL.Env → Fl :=
 (sAsg (dOp2 opMod (dOp2 opAdd (dOp2 opMul (dVar 7) (dVar 5)) (dVar 8)) (dVar 1)) (bName 7))
noncomputable def w_transform_1 : VL.Env → Fl :=
 (sSeq (sAsg (dLit (.int 0)) (bName 7))
 (sSeq (sFor (iRev (dVar 0)) (bName 8) w_transform_0)
 (sSeq (sApp 4 (dVar 7))
 (sAsg (dOp2 opMod (dOp2 opMul (dVar 5) (dVar 3)) (dVar 1)) (bName 5)))))
noncomputable def b_transform : VL.Env → Fl :=
 (sSeq (sAsg (dCall f_find_root (aCons (dVar 1) (aCons (dCall fLen (aCons (dVar 0) aNil)) aNil))) (bName 2))
 (sSeq (sAsg (dOp2 opMod (dOp2 opMul (dVar 2) (dVar 2)) (dVar 1)) (bName 3))
 (sSeq (sAsg (dLst aNil) (bName 4))
 (sSeq (sAsg (dVar 2) (bName 5))
 (sSeq (sFor (iRange1 (dCall fLen (aCons (dVar 0) aNil))) (bName 6) w_transform_1)
 (sRet (dVar 4)))))))
noncomputable def f_transform : List D → Res D := mkFn 2 9 b_transform
/-! def transform_back(values, prime), line 95: slots 0 values, 1 prime, 2 size, 3 root, 4 scale, 5 result, 6 place, 7 step, 8 weight, 9 total, 10 value -/
noncomputable def w_transform_back_0 : VL.Env → Fl :=
 (sSeq (sAsg (dOp2 opMod (dOp2 opAdd (dVar 9) (dOp2 opMul (dVar 10) (dVar 8))) (dVar 1)) (bName 9))
 (sAsg (dOp2 opMod (dOp2 opMul (dVar 8) (dVar 7)) (dVar 1)) (bName 8)))
noncomputable def w_transform_back_1 : VL.Env → Fl :=
 (sSeq (sAsg (dCall f_power (aCons (dVar 3) (aCons (dOp2 opMul (dLit (.int 2)) (dVar 6)) (aCons (dVar 1) aNil)))) (bName 7))
 (sSeq (sAsg (dCall f_power (aCons (dVar 3) (aCons (dVar 6) (aCons (dVar 1) aNil)))) (bName 8))
 (sSeq (sAsg (dLit (.int 0)) (bName 9))
 (sSeq (sFor (iSeq (dVar 0)) (bName 10) w_transform_back_0)
 (sApp 5 (dOp2 opMod (dOp2 opMul (dVar 9) (dVar 4)) (dVar 1)))))))
noncomputable def b_transform_back : VL.Env → Fl :=
 (sSeq (sAsg (dCall fLen (aCons (dVar 0) aNil)) (bName 2))
 (sSeq (sAsg (dCall f_inverse (aCons (dCall f_find_root (aCons (dVar 1) (aCons (dVar 2) aNil))) (aCons (dVar 1) aNil))) (bName 3))
 (sSeq (sAsg (dCall f_inverse (aCons (dVar 2) (aCons (dVar 1) aNil))) (bName 4))
 (sSeq (sAsg (dLst aNil) (bName 5))
 (sSeq (sFor (iRange1 (dVar 2)) (bName 6) w_transform_back_1)
 (sRet (dVar 5)))))))
noncomputable def f_transform_back : List D → Res D := mkFn 2 11 b_transform_back
/-! def _law_told(which, a, prime), line 178: slots 0 which, 1 a, 2 prime, 3 e -/
noncomputable def b__law_told : VL.Env → Fl :=
 (sSeq (sTryAs (sIf (qB (dOp2 opEq (dVar 0) (dLit (.int 0))))
 (sExpr (dCall f_find_root (aCons (dVar 2) (aCons (dCall fLen (aCons (dVar 1) aNil)) aNil))))
 (sIf (qB (dOp2 opEq (dVar 0) (dLit (.int 1))))
 (sExpr (dCall f_transform (aCons (dVar 1) (aCons (dVar 2) aNil))))
 (sIf (qB (dOp2 opEq (dVar 0) (dLit (.int 2))))
 (sExpr (dCall f_transform_back (aCons (dVar 1) (aCons (dVar 2) aNil))))
 (sIf (qB (dOp2 opEq (dVar 0) (dLit (.int 3))))
 (sExpr (dCall f_transform_primes (aCons (dCall fLen (aCons (dVar 1) aNil)) (aCons (dVar 2) (aCons (dLit (.int 2)) aNil)))))
 (sExpr (dCall f_transform_primes (aCons (dCall fLen (aCons (dVar 1) aNil)) (aCons (dLit (.int 1)) (aCons (dVar 2) aNil))))))))) .purse 3 (fun er => (sSeq (sIf (qAnd (qTru (dIsEr er .notThere)) (qNot (qTru (dIsEr er .range))))
 (sRet (dLit (.str "there")))
 sNext)
 (sSeq (sIf (qAnd (qTru (dIsEr er .range)) (qNot (qTru (dIsEr er .notThere))))
 (sRet (dLit (.str "range")))
 sNext)
 (sRet (dLit (.str "other")))))))
 (sRet (dLit (.str ""))))
noncomputable def f__law_told : List D → Res D := mkFn 3 4 b__law_told
/-! def _law_bounds(a, prime), line 197: slots 0 a, 1 prime, 2 size, 3 which, 4 bad, 5 right, 6 row -/
noncomputable def w__law_bounds_0 : VL.Env → Fl :=
 (sSeq (sAsg (dAnd (dOp2 opGt (dVar 4) (dLit (.int 2))) (dAnd (dOp2 opEq (dOp2 opMod (dCall fInt (aCons (dVar 4) aNil)) (dOp2 opMul (dLit (.int 2)) (dVar 2))) (dLit (.int 1))) (dCall f__law_is_prime (aCons (dVar 4) aNil)))) (bName 5))
 (sIf (qAnd (qNot (qTru (dVar 5))) (qB (dOp2 opNe (dCall f__law_told (aCons (dVar 3) (aCons (dVar 0) (aCons (dVar 4) aNil)))) (dLit (.str "there")))))
 (sRet (dLit (.bl false)))
 sNext))
noncomputable def w__law_bounds_1 : VL.Env → Fl :=
 (sIf (qB (dOp2 opNe (dCall f__law_told (aCons (dVar 3) (aCons (dVar 6) (aCons (dVar 1) aNil)))) (dLit (.str "range"))))
 (sRet (dLit (.bl false)))
 sNext)
noncomputable def w__law_bounds_2 : VL.Env → Fl :=
 (sSeq (sFor (iSeq (dLst (aCons (dOp2 opAdd (dVar 1) (dOp2 opMul (dOp2 opMul (dLit (.int 2)) (dVar 2)) (dCall fInt (aCons (dNot (dCall f__law_is_prime (aCons (dOp2 opAdd (dVar 1) (dOp2 opMul (dLit (.int 2)) (dVar 2))) aNil))) aNil)))) (aCons (dLit (.int 0)) (aCons (dLit (.int 1)) (aCons (dLit (.int 2)) (aCons (dOp1 opNeg (dVar 1)) (aCons (dLit (.int 15)) (aCons (dLit (.int 49)) (aCons (dOp2 opMul (dLit (.int 65521)) (dLit (.int 65521))) aNil)))))))))) (bName 4) w__law_bounds_0)
 (sFor (iSeq (dLst (aCons (dLst (aCons (dLit (.int 1)) (aCons (dLit (.int 2)) (aCons (dLit (.int 3)) aNil)))) (aCons (dOp2 opMul (dLst (aCons (dLit (.int 1)) aNil)) (dLit (.int 12))) aNil)))) (bName 6) w__law_bounds_1))
noncomputable def w__law_bounds_3 : VL.Env → Fl :=
 (sIf (qB (dOp2 opNe (dCall f__law_told (aCons (dLit (.int 3)) (aCons (dVar 0) (aCons (dVar 4) aNil)))) (dLit (.str "range"))))
 (sRet (dLit (.bl false)))
 sNext)
noncomputable def b__law_bounds : VL.Env → Fl :=
 (sSeq (sAsg (dCall fLen (aCons (dVar 0) aNil)) (bName 2))
 (sSeq (sFor (iRange1 (dLit (.int 3))) (bName 3) w__law_bounds_2)
 (sSeq (sFor (iSeq (dLst (aCons (dLit (.int 0)) (aCons (dLit (.int 9)) (aCons (dOp1 opNeg (dLit (.int 1))) aNil))))) (bName 4) w__law_bounds_3)
 (sRet (dAnd (dOp2 opEq (dCall f__law_told (aCons (dLit (.int 4)) (aCons (dVar 0) (aCons (dOp2 opAdd (dOp2 opShl (dLit (.int 1)) (dLit (.int 30))) (dLit (.int 1))) aNil)))) (dLit (.str "range"))) (dOp2 opEq (dCall f__law_told (aCons (dLit (.int 3)) (aCons (dLst (aCons (dLit (.int 1)) (aCons (dLit (.int 2)) (aCons (dLit (.int 3)) aNil)))) (aCons (dLit (.int 1)) aNil)))) (dLit (.str "range"))))))))
noncomputable def f__law_bounds : List D → Res D := mkFn 2 7 b__law_bounds
/-! def law(script), line 216: slots 0 script, 1 size, 2 count, 3 least, 4 primes, 5 prime, 6 root, 7 other, 8 turn, 9 a, 10 given, 11 values, 12 passed, 13 row, 14 back, 15 one -/
noncomputable def w_law_0 : VL.Env → Fl :=
 (sSeq (sAsg (dOp2 opMod (dCall fInt (aCons (dOp2 opMul (dOp2 opMul (dVar 7) (dVar 6)) (dVar 6)) aNil)) (dVar 5)) (bName 7))
 (sIf (qB (dOp2 opLt (dVar 7) (dVar 6)))
 (sRet (dLit (.bl false)))
 sNext))
noncomputable def c_law_0 : M D :=
 (dOp2 opMod (dCall fInt (aCons (dVar 15) aNil)) (dVar 5))
noncomputable def c_law_1 : M D :=
 (dOp2 opMod (dCall fInt (aCons (dVar 15) aNil)) (dVar 5))
noncomputable def cq_law_0 : M Bool :=
 (qNot (qB (dChain opLe opLt (dLit (.int 0)) (dVar 15) (dVar 5))))
noncomputable def t_law_0 : VL.Env → Fl :=
 (sSeq (sIf (qOr (qNot (qTru (dCall f__law_is_list (aCons (dCall f_transform_back (aCons (dVar 12) (aCons (dVar 5) aNil))) (aCons (dComp (iSeq (dVar 9)) (bName 15) qYes c_law_0 [15]) aNil))))) (qB (dOp2 opNe (dVar 12) (dVar 11))))
 (sRet (dLit (.bl false)))
 sNext)
 (sSeq (sAsg (dComp (iSeq (dCall f__law_poly (aCons (dCall f__law_cell (aCons (dVar 0) (aCons (dLit (.int 3)) aNil))) (aCons (dVar 1) (aCons (dVar 5) aNil))))) (bName 15) qYes c_law_1 [15]) (bName 13))
 (sSeq (sAsg (dCall f_transform_back (aCons (dCall fList (aCons (dVar 13) aNil)) (aCons (dVar 5) aNil))) (bName 14))
 (sSeq (sIf (qOr (qB (dOp2 opGt (dCall fLen (aCons (dComp (iSeq (dVar 14)) (bName 15) cq_law_0 (dVar 15) [15]) aNil)) (dLit (.int 0)))) (qNot (qTru (dCall f__law_is_list (aCons (dCall f_transform (aCons (dCall fList (aCons (dVar 14) aNil)) (aCons (dVar 5) aNil))) (aCons (dVar 13) aNil))))))
 (sRet (dLit (.bl false)))
 sNext)
 (sRet (dCall f__law_bounds (aCons (dVar 9) (aCons (dVar 5) aNil))))))))
noncomputable def t_law_1 : VL.Env → Fl :=
 (sSeq (sAsg (dCall f__law_poly (aCons (dCall f__law_cell (aCons (dVar 0) (aCons (dLit (.int 2)) aNil))) (aCons (dVar 1) (aCons (dOp2 opIx (dLst (aCons (dVar 5) (aCons (dOp2 opShl (dLit (.int 1)) (dLit (.int 50))) aNil))) (dOp2 opMod (dCall fAbs (aCons (dCall f__law_cell (aCons (dVar 0) (aCons (dLit (.int 2)) aNil))) aNil)) (dLit (.int 2)))) aNil)))) (bName 9))
 (sSeq (sAsg (dCall fList (aCons (dVar 9) aNil)) (bName 10))
 (sSeq (sAsg (dCall f_transform (aCons (dVar 10) (aCons (dVar 5) aNil))) (bName 11))
 (sSeq (sIf (qOr (qNot (qTru (dCall f__law_is_list (aCons (dVar 11) (aCons (dCall f__law_values (aCons (dVar 9) (aCons (dVar 6) (aCons (dVar 5) aNil)))) aNil))))) (qB (dOp2 opNe (dVar 10) (dVar 9))))
 (sRet (dLit (.bl false)))
 sNext)
 (sSeq (sAsg (dCall fList (aCons (dVar 11) aNil)) (bName 12))
 t_law_0)))))
noncomputable def t_law_2 : VL.Env → Fl :=
 (sSeq (sAsg (dOp2 opIx (dVar 4) (dOp1 opNeg (dLit (.int 1)))) (bName 5))
 (sSeq (sAsg (dCall f_find_root (aCons (dVar 5) (aCons (dVar 1) aNil))) (bName 6))
 (sSeq (sIf (qOr (qNot (qTru (dCall f__law_integer (aCons (dVar 6) aNil)))) (qOr (qNot (qB (dChain opLe opLt (dLit (.int 1)) (dVar 6) (dVar 5)))) (qB (dOp2 opNe (dCall f__law_power (aCons (dVar 6) (aCons (dVar 1) (aCons (dVar 5) aNil)))) (dOp2 opSub (dVar 5) (dLit (.int 1)))))))
 (sRet (dLit (.bl false)))
 sNext)
 (sSeq (sAsg (dVar 6) (bName 7))
 (sSeq (sFor (iRange1 (dOp2 opSub (dVar 1) (dLit (.int 1)))) (bName 8) w_law_0)
 t_law_1)))))
noncomputable def t_law_3 : VL.Env → Fl :=
 (sSeq (sAsg (dOp2 opAdd (dLit (.int 1)) (dOp2 opMod (dOp2 opDiv (dCall fAbs (aCons (dCall f__law_cell (aCons (dVar 0) (aCons (dLit (.int 0)) aNil))) aNil)) (dLit (.int 5))) (dOp2 opIx (dLst (aCons (dLit (.int 3)) (aCons (dLit (.int 8)) aNil))) (dCall fInt (aCons (dOp2 opEq (dOp2 opMod (dOp2 opDiv (dCall fAbs (aCons (dCall f__law_cell (aCons (dVar 0) (aCons (dLit (.int 1)) aNil))) aNil)) (dLit (.int 9000))) (dLit (.int 4))) (dLit (.int 1))) aNil))))) (bName 2))
 (sSeq (sAsg (dOp2 opIx (dLst (aCons (dOp2 opMod (dOp2 opDiv (dCall fAbs (aCons (dCall f__law_cell (aCons (dVar 0) (aCons (dLit (.int 1)) aNil))) aNil)) (dLit (.int 3))) (dLit (.int 3000))) (aCons (dOp2 opMod (dOp2 opDiv (dCall fAbs (aCons (dCall f__law_cell (aCons (dVar 0) (aCons (dLit (.int 1)) aNil))) aNil)) (dLit (.int 3))) (dLit (.int 9000))) (aCons (dOp1 opNeg (dLit (.int 5))) aNil)))) (dOp2 opMod (dCall fAbs (aCons (dCall f__law_cell (aCons (dVar 0) (aCons (dLit (.int 1)) aNil))) aNil)) (dLit (.int 3)))) (bName 3))
 (sSeq (sIf (qAnd (qB (dOp2 opEq (dOp2 opMod (dOp2 opDiv (dCall fAbs (aCons (dCall f__law_cell (aCons (dVar 0) (aCons (dLit (.int 1)) aNil))) aNil)) (dLit (.int 36000))) (dLit (.int 32))) (dLit (.int 5)))) (qB (dOp2 opLe (dVar 1) (dLit (.int 16)))))
 (sSeq (sAsg (dOp2 opIx (dLst (aCons (dOp2 opShl (dLit (.int 1)) (dLit (.int 30))) (aCons (dOp2 opAdd (dOp2 opShl (dLit (.int 1)) (dLit (.int 20))) (dVar 3)) aNil))) (dOp2 opMod (dOp2 opDiv (dCall fAbs (aCons (dCall f__law_cell (aCons (dVar 0) (aCons (dLit (.int 1)) aNil))) aNil)) (dLit (.int 1152000))) (dLit (.int 2)))) (bName 3))
 (sAsg (dOp2 opAdd (dLit (.int 1)) (dOp2 opMod (dVar 2) (dLit (.int 2)))) (bName 2)))
 sNext)
 (sSeq (sAsg (dCall f_transform_primes (aCons (dVar 1) (aCons (dVar 2) (aCons (dVar 3) aNil)))) (bName 4))
 (sSeq (sIf (qNot (qTru (dCall f__law_is_list (aCons (dVar 4) (aCons (dCall f__law_primes (aCons (dVar 1) (aCons (dVar 2) (aCons (dVar 3) aNil)))) aNil)))))
 (sRet (dLit (.bl false)))
 sNext)
 t_law_2)))))
noncomputable def b_law : VL.Env → Fl :=
 (sSeq (sAsg (dCall f__law_size (aCons (dCall f__law_cell (aCons (dVar 0) (aCons (dLit (.int 0)) aNil))) aNil)) (bName 1))
 t_law_3)
noncomputable def f_law : List D → Res D := mkFn 1 16 b_law
end K05
namespace K05
open PySem hiding Env
open VL VT
noncomputable def p__law_cell (script : (List Int)) (k : Int) : Res Int := (tRun (if (decide (k < (ilen script))) then (onE (Res.bind (ix script k) fun v_1 => (Res.ok v_1)) TF.rt) else (.rt (0 : Int))))
theorem s__law_cell (script : (List Int)) (k : Int) : Sm Enc.enc (f__law_cell [Enc.enc script, Enc.enc k]) (p__law_cell script k) := by
  unfold f__law_cell b__law_cell
  exact fn_sim rfl (by decide) (k_seq (k_ifP (fun η hl h => (u_qB (u_op2 (bP (e_var (x := k) h 1 rfl) (bP (u_call (a_consP (e_var (x := script) h 0 rfl) (a_nil (l_len (xs := script))))) (l_lt (x := k) (y := (ilen script)))))))) (k_retE Sub.nil fun η hl h => (u_call (a_consE (u_op2 (bP (e_var (x := script) h 0 rfl) (bP (e_var (x := k) h 1 rfl) (l_ix (xs := script) (x := k))))) fun v_1 => (a_nil (l_int (x := v_1)))))) (k_next (k_retP fun η hl h => (e_lit (x := (0 : Int)) rfl)))))
noncomputable def p__law_size (cell : Int) : Res Int := (tRun (onE (Res.ok (iabs cell)) fun rest_2 => (onE (Res.bind (Res.bind (idiv rest_2 (60 : Int)) fun v_3 => (imod v_3 (16 : Int))) fun v_4 => (Res.ok (decide (v_4 = (1 : Int))))) fun c => if c then (onE (Res.bind (Res.bind (idiv rest_2 (960 : Int)) fun v_5 => (imod v_5 (4 : Int))) fun v_6 => (ix ([(32 : Int), (64 : Int), (128 : Int), (256 : Int)] : List Int) v_6)) TF.rt) else (onE (Res.bind (imod rest_2 (5 : Int)) fun v_7 => (ix ([(1 : Int), (2 : Int), (4 : Int), (8 : Int), (16 : Int)] : List Int) v_7)) TF.rt))))
theorem s__law_size (cell : Int) : Sm Enc.enc (f__law_size [Enc.enc cell]) (p__law_size cell) := by
  unfold f__law_size b__law_size
  exact fn_sim rfl (by decide) (k_seq (k_asgE (r := (Res.ok (iabs cell))) (by decide) Sub.nil (fun η hl h => (u_call (a_consP (e_var (x := cell) h 0 rfl) (a_nil (l_abs (x := cell)))))) fun rest_2 => (k_seq (k_ifE Sub.nil (fun η hl h => (u_qB (u_op2 (bE (u_op2 (bE (u_op2 (bP (e_var (x := rest_2) h 1 rfl) (bP (e_lit (x := (60 : Int)) rfl) (l_div (x := rest_2) (y := (60 : Int)))))) fun v_3 => (bP (e_lit (x := (16 : Int)) rfl) (l_mod (x := v_3) (y := (16 : Int)))))) fun v_4 => (bP (e_lit (x := (1 : Int)) rfl) (l_eq (x := v_4) (y := (1 : Int)))))))) (k_retE Sub.nil fun η hl h => (u_op2 (bP (u_lst (a_consP (e_lit (x := (32 : Int)) rfl) (a_consP (e_lit (x := (64 : Int)) rfl) (a_consP (e_lit (x := (128 : Int)) rfl) (a_consP (e_lit (x := (256 : Int)) rfl) (a_nil (l_lst (xs := ([(32 : Int), (64 : Int), (128 : Int), (256 : Int)] : List Int)) rfl rfl))))))) (bE (u_op2 (bE (u_op2 (bP (e_var (x := rest_2) h 1 rfl) (bP (e_lit (x := (960 : Int)) rfl) (l_div (x := rest_2) (y := (960 : Int)))))) fun v_5 => (bP (e_lit (x := (4 : Int)) rfl) (l_mod (x := v_5) (y := (4 : Int)))))) fun v_6 => (l_ix (xs := ([(32 : Int), (64 : Int), (128 : Int), (256 : Int)] : List Int)) (x := v_6)))))) (k_next (k_retE Sub.nil fun η hl h => (u_op2 (bP (u_lst (a_consP (e_lit (x := (1 : Int)) rfl) (a_consP (e_lit (x := (2 : Int)) rfl) (a_consP (e_lit (x := (4 : Int)) rfl) (a_consP (e_lit (x := (8 : Int)) rfl) (a_consP (e_lit (x := (16 : Int)) rfl) (a_nil (l_lst (xs := ([(1 : Int), (2 : Int), (4 : Int), (8 : Int), (16 : Int)] : List Int)) rfl rfl)))))))) (bE (u_op2 (bP (e_var (x := rest_2) h 1 rfl) (bP (e_lit (x := (5 : Int)) rfl) (l_mod (x := rest_2) (y := (5 : Int)))))) fun v_7 => (l_ix (xs := ([(1 : Int), (2 : Int), (4 : Int), (8 : Int), (16 : Int)] : List Int)) (x := v_7)))))))))))
noncomputable def p_check_size (size : Int) : Res Unit := (tRunF () (if ((!((decide ((1 : Int) ≤ size)) && (decide (size ≤ (1024 : Int))))) || (!decide ((Builtin.bitAnd size (size - (1 : Int))) = (0 : Int)))) then (.ex .range) else (.nx ())))
theorem s_check_size (size : Int) : Sm Enc.enc (f_check_size [Enc.enc size]) (p_check_size size) := by
  unfold f_check_size b_check_size
  exact fn_simF (r0 := ()) rfl rfl (by decide) (k_ifP (fun η hl h => (u_qOrP (u_qNotP (u_qB (u_chain' (bP (e_lit (x := (1 : Int)) rfl) (bP (e_var (x := size) h 0 rfl) (chain_inP (l_le (x := (1 : Int)) (y := size)) (bP (e_lit (x := (1024 : Int)) rfl) (l_le (x := size) (y := (1024 : Int)))))))))) (u_qB (u_op2 (bP (u_op2 (bP (e_var (x := size) h 0 rfl) (bP (u_op2 (bP (e_var (x := size) h 0 rfl) (bP (e_lit (x := (1 : Int)) rfl) (l_sub (x := size) (y := (1 : Int)))))) (l_bitAnd (x := size) (y := (size - (1 : Int))))))) (bP (e_lit (x := (0 : Int)) rfl) (l_ne (x := (Builtin.bitAnd size (size - (1 : Int)))) (y := (0 : Int))))))))) (k_raise .range Sub.nil) (k_next (k_end Sub.nil)))
noncomputable def p_is_prime (number : Int) : Res Bool := (tRun (onE (Res.bind (ishl (1 : Int) (32 : Int)) fun v_70 => (Res.ok (decide (number ≥ v_70)))) fun c => if c then (.ex .range) else (if (decide (number < (4 : Int))) then (.rt (decide (number > (1 : Int)))) else (onE (Res.bind (imod number (2 : Int)) fun v_71 => (Res.ok (decide (v_71 = (0 : Int))))) fun c => if c then (.rt false) else (TF.bind (tWhile (fun (s_72 : (Int)) => (Res.bind (imul s_72 s_72) fun v_73 => (Res.ok (decide (v_73 ≤ number))))) ((3 : Int) : (Int)) (fun (s_72 : (Int)) => (onE (Res.bind (imod number s_72) fun v_74 => (Res.ok (decide (v_74 = (0 : Int))))) fun c => if c then (.rt false) else (onE (Res.ok (s_72 + (2 : Int))) fun divisor_75 => (.nx divisor_75))))) fun s_76 => (.rt true))))))
theorem s_is_prime (number : Int) : Sm Enc.enc (f_is_prime [Enc.enc number]) (p_is_prime number) := by
  unfold f_is_prime b_is_prime w_is_prime_0 q_is_prime_0
  exact fn_sim rfl (by decide) (k_seq (k_ifE Sub.nil (fun η hl h => (u_qB (u_op2 (bP (e_var (x := number) h 0 rfl) (bE (u_op2 (bP (e_lit (x := (1 : Int)) rfl) (bP (e_lit (x := (32 : Int)) rfl) (l_shl (x := (1 : Int)) (y := (32 : Int)))))) fun v_70 => (l_ge (x := number) (y := v_70))))))) (k_raise .range Sub.nil) (k_next (k_seq (k_ifP (fun η hl h => (u_qB (u_op2 (bP (e_var (x := number) h 0 rfl) (bP (e_lit (x := (4 : Int)) rfl) (l_lt (x := number) (y := (4 : Int)))))))) (k_retP fun η hl h => (u_op2 (bP (e_var (x := number) h 0 rfl) (bP (e_lit (x := (1 : Int)) rfl) (l_gt (x := number) (y := (1 : Int))))))) (k_next (k_seq (k_ifE Sub.nil (fun η hl h => (u_qB (u_op2 (bE (u_op2 (bP (e_var (x := number) h 0 rfl) (bP (e_lit (x := (2 : Int)) rfl) (l_mod (x := number) (y := (2 : Int)))))) fun v_71 => (bP (e_lit (x := (0 : Int)) rfl) (l_eq (x := v_71) (y := (0 : Int)))))))) (k_retP fun η hl h => (e_lit (x := false) rfl)) (k_next (k_seq (k_asgP (by decide) (fun η hl h => (e_lit (x := (3 : Int)) rfl)) (k_seq (k_while (fun (s_72 : (Int)) => [(0, Enc.enc number), (1, Enc.enc s_72)]) (tq := (fun (s_72 : (Int)) => (Res.bind (imul s_72 s_72) fun v_73 => (Res.ok (decide (v_73 ≤ number)))))) (s0 := ((3 : Int) : (Int))) (fun s_72 => Sub.nil) (Sub.of ⟨rfl, rfl, trivial⟩) (fun s_72 η hl h => (u_qB (u_op2 (bE (u_op2 (bP (e_var (x := s_72) h 1 rfl) (bP (e_var (x := s_72) h 1 rfl) (l_mul (x := s_72) (y := s_72))))) fun v_73 => (bP (e_var (x := number) h 0 rfl) (l_le (x := v_73) (y := number))))))) (fun s_72 => (k_seq (k_ifE Sub.nil (fun η hl h => (u_qB (u_op2 (bE (u_op2 (bP (e_var (x := number) h 0 rfl) (bP (e_var (x := s_72) h 1 rfl) (l_mod (x := number) (y := s_72))))) fun v_74 => (bP (e_lit (x := (0 : Int)) rfl) (l_eq (x := v_74) (y := (0 : Int)))))))) (k_retP fun η hl h => (e_lit (x := false) rfl)) (k_next (k_asgE (r := (Res.ok (s_72 + (2 : Int)))) (by decide) Sub.nil (fun η hl h => (u_op2 (bP (e_var (x := s_72) h 1 rfl) (bP (e_lit (x := (2 : Int)) rfl) (l_add (x := s_72) (y := (2 : Int))))))) fun divisor_75 => (k_end (Sub.of ⟨rfl, rfl, trivial⟩))))))) fun s_76 => (k_retP fun η hl h => (e_lit (x := true) rfl)))))))))))))))
noncomputable def p_transform_primes (size : Int) (count : Int) (least : Int) : Res (List Int) := (tRun (onE (p_check_size size) fun u_82 => (if (!((decide ((1 : Int) ≤ count)) && (decide (count ≤ (8 : Int))))) then (.ex .range) else (onE (Res.bind (ishl (1 : Int) (30 : Int)) fun v_62 => (Res.ok (decide (least > v_62)))) fun c => if c then (.ex .range) else (onE (imul (2 : Int) size) fun step_63 => (onE (Res.bind (Res.bind (Res.bind (idiv ((least + step_63) - (2 : Int)) step_63) fun v_64 => (Res.ok (imax2 (0 : Int) v_64))) fun v_65 => (imul v_65 step_63)) fun v_66 => (Res.ok (v_66 + (1 : Int)))) fun number_67 => (onE (Res.ok ([] : List Int)) fun found_68 => (TF.bind (tWhile (fun (s_69 : (Int × (List Int))) => (Res.ok (decide ((ilen s_69.2) < count)))) ((number_67, found_68) : (Int × (List Int))) (fun (s_69 : (Int × (List Int))) => (TF.bind (σ := ((List Int))) (onE (p_is_prime s_69.1) fun c => if c then (onE (lapp s_69.2 s_69.1) fun found_78 => (.nx found_78)) else (.nx s_69.2)) fun s_79 => (onE (Res.ok (s_69.1 + step_63)) fun number_80 => (.nx (number_80, s_79)))))) fun s_81 => (.rt s_81.2)))))))))
theorem s_transform_primes (size : Int) (count : Int) (least : Int) : Sm Enc.enc (f_transform_primes [Enc.enc size, Enc.enc count, Enc.enc least]) (p_transform_primes size count least) := by
  unfold f_transform_primes b_transform_primes w_transform_primes_0 q_transform_primes_0
  exact fn_sim rfl (by decide) (k_seq (k_exprE Sub.nil (fun η hl h => (u_call (a_consP (e_var (x := size) h 0 rfl) (a_nil (s_check_size size))))) fun u_82 => (k_seq (k_ifP (fun η hl h => (u_qNotP (u_qB (u_chain' (bP (e_lit (x := (1 : Int)) rfl) (bP (e_var (x := count) h 1 rfl) (chain_inP (l_le (x := (1 : Int)) (y := count)) (bP (e_lit (x := (8 : Int)) rfl) (l_le (x := count) (y := (8 : Int))))))))))) (k_raise .range Sub.nil) (k_next (k_seq (k_ifE Sub.nil (fun η hl h => (u_qB (u_op2 (bP (e_var (x := least) h 2 rfl) (bE (u_op2 (bP (e_lit (x := (1 : Int)) rfl) (bP (e_lit (x := (30 : Int)) rfl) (l_shl (x := (1 : Int)) (y := (30 : Int)))))) fun v_62 => (l_gt (x := least) (y := v_62))))))) (k_raise .range Sub.nil) (k_next (k_seq (k_asgE (r := (imul (2 : Int) size)) (by decide) Sub.nil (fun η hl h => (u_op2 (bP (e_lit (x := (2 : Int)) rfl) (bP (e_var (x := size) h 0 rfl) (l_mul (x := (2 : Int)) (y := size)))))) fun step_63 => (k_seq (k_asgE (r := (Res.bind (Res.bind (Res.bind (idiv ((least + step_63) - (2 : Int)) step_63) fun v_64 => (Res.ok (imax2 (0 : Int) v_64))) fun v_65 => (imul v_65 step_63)) fun v_66 => (Res.ok (v_66 + (1 : Int))))) (by decide) Sub.nil (fun η hl h => (u_op2 (bE (u_op2 (bE (u_call (a_consP (e_lit (x := (0 : Int)) rfl) (a_consE (u_op2 (bP (u_op2 (bP (u_op2 (bP (e_var (x := least) h 2 rfl) (bP (e_var (x := step_63) h 3 rfl) (l_add (x := least) (y := step_63))))) (bP (e_lit (x := (2 : Int)) rfl) (l_sub (x := (least + step_63)) (y := (2 : Int)))))) (bP (e_var (x := step_63) h 3 rfl) (l_div (x := ((least + step_63) - (2 : Int))) (y := step_63))))) fun v_64 => (a_nil (l_max2 (x := (0 : Int)) (y := v_64)))))) fun v_65 => (bP (e_var (x := step_63) h 3 rfl) (l_mul (x := v_65) (y := step_63))))) fun v_66 => (bP (e_lit (x := (1 : Int)) rfl) (l_add (x := v_66) (y := (1 : Int))))))) fun number_67 => (k_seq (k_asgE (r := (Res.ok ([] : List Int))) (by decide) Sub.nil (fun η hl h => (u_lst (a_nil (l_lst (xs := ([] : List Int)) rfl rfl)))) fun found_68 => (k_seq (k_while (fun (s_69 : (Int × (List Int))) => [(1, Enc.enc count), (3, Enc.enc step_63), (4, Enc.enc s_69.1), (5, Enc.enc s_69.2)]) (tq := (fun (s_69 : (Int × (List Int))) => (Res.ok (decide ((ilen s_69.2) < count))))) (s0 := ((number_67, found_68) : (Int × (List Int)))) (fun s_69 => Sub.nil) (Sub.of ⟨rfl, rfl, rfl, rfl, trivial⟩) (fun s_69 η hl h => (u_qB (u_op2 (bP (u_lenAt (xs := s_69.2) h rfl) (bP (e_var (x := count) h 1 rfl) (l_lt (x := (ilen s_69.2)) (y := count))))))) (fun s_69 => (k_seq (k_join (Lm := fun (s_79 : ((List Int))) => [(1, Enc.enc count), (3, Enc.enc step_63), (4, Enc.enc s_69.1), (5, Enc.enc s_79)]) (k_ifE Sub.nil (fun η hl h => (u_qTruB (u_call (a_consP (e_var (x := s_69.1) h 4 rfl) (a_nil (s_is_prime s_69.1)))))) (k_appP (xs := s_69.2) (x := s_69.1) (by decide) Sub.nil rfl (fun η hl h => (e_var (x := s_69.1) h 4 rfl)) fun found_78 => (k_end (Sub.of ⟨rfl, rfl, rfl, rfl, trivial⟩))) (k_next (k_end (Sub.of ⟨rfl, rfl, rfl, rfl, trivial⟩)))) fun s_79 => (k_asgE (r := (Res.ok (s_69.1 + step_63))) (by decide) Sub.nil (fun η hl h => (u_op2 (bP (e_var (x := s_69.1) h 4 rfl) (bP (e_var (x := step_63) h 3 rfl) (l_add (x := s_69.1) (y := step_63)))))) fun number_80 => (k_end (Sub.of ⟨rfl, rfl, rfl, rfl, trivial⟩)))))) fun s_81 => (k_retP fun η hl h => (e_var (x := s_81.2) h 5 rfl))))))))))))))))))
noncomputable def p__law_is_prime (number : Int) : Res Bool := (tRun (if (decide (number < (2 : Int))) then (.rt false) else (onE (irange2 (2 : Int) (40000 : Int)) fun xs_95 => TF.bind (tFor xs_95 (() : Unit) (fun (x_91 : Int) (s_90 : Unit) => (onE (Res.bind (imul x_91 x_91) fun v_92 => (Res.ok (decide (v_92 > number)))) fun c => if c then (.rt true) else (onE (Res.bind (imod number x_91) fun v_93 => (Res.ok (decide (v_93 = (0 : Int))))) fun c => if c then (.rt false) else (.nx ()))))) fun s_94 => (.rt true))))
theorem s__law_is_prime (number : Int) : Sm Enc.enc (f__law_is_prime [Enc.enc number]) (p__law_is_prime number) := by
  unfold f__law_is_prime b__law_is_prime w__law_is_prime_0
  exact fn_sim rfl (by decide) (k_seq (k_ifP (fun η hl h => (u_qB (u_op2 (bP (e_var (x := number) h 0 rfl) (bP (e_lit (x := (2 : Int)) rfl) (l_lt (x := number) (y := (2 : Int)))))))) (k_retP fun η hl h => (e_lit (x := false) rfl)) (k_next (k_seq (k_for (ri := (irange2 (2 : Int) (40000 : Int))) (fun (s_90 : Unit) => [(0, Enc.enc number)]) (s0 := (() : Unit)) Sub.nil (fun η hl h => (i_range2P (e_lit (x := (2 : Int)) rfl) (e_lit (x := (40000 : Int)) rfl))) (Sub.of ⟨rfl, trivial⟩) (fun x_91 s_90 => (t_name 1 (by decide))) (fun x_91 s_90 => (k_seq (k_ifE Sub.nil (fun η hl h => (u_qB (u_op2 (bE (u_op2 (bP (e_var (x := x_91) h 1 rfl) (bP (e_var (x := x_91) h 1 rfl) (l_mul (x := x_91) (y := x_91))))) fun v_92 => (bP (e_var (x := number) h 0 rfl) (l_gt (x := v_92) (y := number))))))) (k_retP fun η hl h => (e_lit (x := true) rfl)) (k_next (k_ifE Sub.nil (fun η hl h => (u_qB (u_op2 (bE (u_op2 (bP (u_call (a_consP (e_var (x := number) h 0 rfl) (a_nil (l_int (x := number))))) (bP (e_var (x := x_91) h 1 rfl) (l_mod (x := number) (y := x_91))))) fun v_93 => (bP (e_lit (x := (0 : Int)) rfl) (l_eq (x := v_93) (y := (0 : Int)))))))) (k_retP fun η hl h => (e_lit (x := false) rfl)) (k_next (k_end (Sub.of ⟨rfl, trivial⟩)))))))) fun s_94 => (k_retP fun η hl h => (e_lit (x := true) rfl)))))))
noncomputable def p__law_primes (size : Int) (count : Int) (least : Int) : Res (List Int) := (tRun (onE (Res.ok ([] : List Int)) fun found_84 => (onE (Res.ok (imax2 least (2 : Int))) fun number_85 => (onE (irange (200000 : Int)) fun xs_101 => TF.bind (tFor xs_101 ((found_84, number_85) : ((List Int) × Int)) (fun (x_87 : Int) (s_86 : ((List Int) × Int)) => (if (decide ((ilen s_86.1) = count)) then (.bk (s_86.1, s_86.2)) else (TF.bind (σ := ((List Int))) (onE (rand (Res.bind (Res.bind (imul (2 : Int) size) fun v_88 => (imod (s_86.2 - (1 : Int)) v_88)) fun v_89 => (Res.ok (decide (v_89 = (0 : Int))))) (p__law_is_prime s_86.2)) fun c => if c then (onE (lapp s_86.1 s_86.2) fun found_97 => (.nx found_97)) else (.nx s_86.1)) fun s_98 => (onE (Res.ok (s_86.2 + (1 : Int))) fun number_99 => (.nx (s_98, number_99))))))) fun s_100 => (.rt s_100.1)))))
theorem s__law_primes (size : Int) (count : Int) (least : Int) : Sm Enc.enc (f__law_primes [Enc.enc size, Enc.enc count, Enc.enc least]) (p__law_primes size count least) := by
  unfold f__law_primes b__law_primes w__law_primes_0
  exact fn_sim rfl (by decide) (k_seq (k_asgE (r := (Res.ok ([] : List Int))) (by decide) Sub.nil (fun η hl h => (u_lst (a_nil (l_lst (xs := ([] : List Int)) rfl rfl)))) fun found_84 => (k_seq (k_asgE (r := (Res.ok (imax2 least (2 : Int)))) (by decide) Sub.nil (fun η hl h => (u_call (a_consP (e_var (x := least) h 2 rfl) (a_consP (e_lit (x := (2 : Int)) rfl) (a_nil (l_max2 (x := least) (y := (2 : Int)))))))) fun number_85 => (k_seq (k_for (ri := (irange (200000 : Int))) (fun (s_86 : ((List Int) × Int)) => [(0, Enc.enc size), (1, Enc.enc count), (3, Enc.enc s_86.1), (4, Enc.enc s_86.2)]) (s0 := ((found_84, number_85) : ((List Int) × Int))) Sub.nil (fun η hl h => (i_range1P (e_lit (x := (200000 : Int)) rfl))) (Sub.of ⟨rfl, rfl, rfl, rfl, trivial⟩) (fun x_87 s_86 => (t_name 5 (by decide))) (fun x_87 s_86 => (k_seq (k_ifP (fun η hl h => (u_qB (u_op2 (bP (u_lenAt (xs := s_86.1) h rfl) (bP (e_var (x := count) h 1 rfl) (l_eq (x := (ilen s_86.1)) (y := count))))))) (k_brk (Sub.of ⟨rfl, rfl, rfl, rfl, trivial⟩)) (k_next (k_seq (k_join (Lm := fun (s_98 : ((List Int))) => [(0, Enc.enc size), (1, Enc.enc count), (3, Enc.enc s_98), (4, Enc.enc s_86.2)]) (k_ifE Sub.nil (fun η hl h => (u_qAnd (u_qB (u_op2 (bE (u_op2 (bP (u_call (a_consP (u_op2 (bP (e_var (x := s_86.2) h 4 rfl) (bP (e_lit (x := (1 : Int)) rfl) (l_sub (x := s_86.2) (y := (1 : Int)))))) (a_nil (l_int (x := (s_86.2 - (1 : Int))))))) (bE (u_op2 (bP (e_lit (x := (2 : Int)) rfl) (bP (e_var (x := size) h 0 rfl) (l_mul (x := (2 : Int)) (y := size))))) fun v_88 => (l_mod (x := (s_86.2 - (1 : Int))) (y := v_88))))) fun v_89 => (bP (e_lit (x := (0 : Int)) rfl) (l_eq (x := v_89) (y := (0 : Int))))))) (u_qTruB (u_call (a_consP (e_var (x := s_86.2) h 4 rfl) (a_nil (s__law_is_prime s_86.2))))))) (k_appP (xs := s_86.1) (x := s_86.2) (by decide) Sub.nil rfl (fun η hl h => (e_var (x := s_86.2) h 4 rfl)) fun found_97 => (k_end (Sub.of ⟨rfl, rfl, rfl, rfl, trivial⟩))) (k_next (k_end (Sub.of ⟨rfl, rfl, rfl, rfl, trivial⟩)))) fun s_98 => (k_asgE (r := (Res.ok (s_86.2 + (1 : Int)))) (by decide) Sub.nil (fun η hl h => (u_op2 (bP (e_var (x := s_86.2) h 4 rfl) (bP (e_lit (x := (1 : Int)) rfl) (l_add (x := s_86.2) (y := (1 : Int))))))) fun number_99 => (k_end (Sub.of ⟨rfl, rfl, rfl, rfl, trivial⟩))))))))) fun s_100 => (k_retP fun η hl h => (e_var (x := s_100.1) h 3 rfl))))))))
noncomputable def p__law_integer (actual : Int) : Res Bool := (tRun (.rt (true && (!false))))
theorem s__law_integer (actual : Int) : Sm Enc.enc (f__law_integer [Enc.enc actual]) (p__law_integer actual) := by
  unfold f__law_integer b__law_integer
  exact fn_sim rfl (by decide) (k_retP fun η hl h => (u_andP (u_op1 (bP (e_var (x := actual) h 0 rfl) (l_isTy rfl))) (u_notP (u_op1 (bP (e_var (x := actual) h 0 rfl) (l_isTy rfl))))))
noncomputable def p__law_is_list (actual : (List Int)) (due : (List Int)) : Res Bool := (tRun (if ((!true) || (!decide ((ilen actual) = (ilen due)))) then (.rt false) else (TF.bind (tFor (List.zip actual due) (() : Unit) (fun (x_103 : (Int × Int)) (s_102 : Unit) => (onE (ror (Res.bind (p__law_integer x_103.1) fun c => .ok (!c)) (Res.ok (!decide (x_103.1 = x_103.2)))) fun c => if c then (.rt false) else (.nx ())))) fun s_104 => (.rt true))))
theorem s__law_is_list (actual : (List Int)) (due : (List Int)) : Sm Enc.enc (f__law_is_list [Enc.enc actual, Enc.enc due]) (p__law_is_list actual due) := by
  unfold f__law_is_list b__law_is_list w__law_is_list_0
  exact fn_sim rfl (by decide) (k_seq (k_ifP (fun η hl h => (u_qOrP (u_qNotP (u_qTruB (u_op1 (bP (e_var (x := actual) h 0 rfl) (l_isTy rfl))))) (u_qB (u_op2 (bP (u_call (a_consP (e_var (x := actual) h 0 rfl) (a_nil (l_len (xs := actual))))) (bP (u_call (a_consP (e_var (x := due) h 1 rfl) (a_nil (l_len (xs := due))))) (l_ne (x := (ilen actual)) (y := (ilen due))))))))) (k_retP fun η hl h => (e_lit (x := false) rfl)) (k_next (k_seq (k_forP (xs := (List.zip actual due)) (fun (s_102 : Unit) => []) (s0 := (() : Unit)) (fun η hl h => (i_zipP (e_var (x := actual) h 0 rfl) (e_var (x := due) h 1 rfl))) Sub.nil (fun x_103 s_102 => (t_tup (ts_cons (t_name 2 (by decide)) (ts_cons (t_name 3 (by decide)) ts_nil)))) (fun x_103 s_102 => (k_ifE Sub.nil (fun η hl h => (u_qOr (u_qNot (u_qTruB (u_call (a_consP (e_var (x := x_103.1) h 2 rfl) (a_nil (s__law_integer x_103.1)))))) (u_qB (u_op2 (bP (e_var (x := x_103.1) h 2 rfl) (bP (e_var (x := x_103.2) h 3 rfl) (l_ne (x := x_103.1) (y := x_103.2)))))))) (k_retP fun η hl h => (e_lit (x := false) rfl)) (k_next (k_end Sub.nil)))) fun s_104 => (k_retP fun η hl h => (e_lit (x := true) rfl)))))))
noncomputable def p_check_prime (prime : Int) (size : Int) : Res Unit := (tRunF () (onE (ror (Res.ok (decide (prime < (3 : Int)))) (ror (Res.bind (ishl (1 : Int) (32 : Int)) fun v_107 => (Res.ok (decide (prime ≥ v_107)))) (ror (Res.bind (Res.bind (imul (2 : Int) size) fun v_108 => (imod prime v_108)) fun v_109 => (Res.ok (!decide (v_109 = (1 : Int))))) (Res.bind (p_is_prime prime) fun c => .ok (!c))))) fun c => if c then (.ex .notThere) else (.nx ())))
theorem s_check_prime (prime : Int) (size : Int) : Sm Enc.enc (f_check_prime [Enc.enc prime, Enc.enc size]) (p_check_prime prime size) := by
  unfold f_check_prime b_check_prime
  exact fn_simF (r0 := ()) rfl rfl (by decide) (k_ifE Sub.nil (fun η hl h => (u_qOr (u_qB (u_op2 (bP (e_var (x := prime) h 0 rfl) (bP (e_lit (x := (3 : Int)) rfl) (l_lt (x := prime) (y := (3 : Int))))))) (u_qOr (u_qB (u_op2 (bP (e_var (x := prime) h 0 rfl) (bE (u_op2 (bP (e_lit (x := (1 : Int)) rfl) (bP (e_lit (x := (32 : Int)) rfl) (l_shl (x := (1 : Int)) (y := (32 : Int)))))) fun v_107 => (l_ge (x := prime) (y := v_107)))))) (u_qOr (u_qB (u_op2 (bE (u_op2 (bP (e_var (x := prime) h 0 rfl) (bE (u_op2 (bP (e_lit (x := (2 : Int)) rfl) (bP (e_var (x := size) h 1 rfl) (l_mul (x := (2 : Int)) (y := size))))) fun v_108 => (l_mod (x := prime) (y := v_108))))) fun v_109 => (bP (e_lit (x := (1 : Int)) rfl) (l_ne (x := v_109) (y := (1 : Int))))))) (u_qNot (u_qTruB (u_call (a_consP (e_var (x := prime) h 0 rfl) (a_nil (s_is_prime prime)))))))))) (k_raise .notThere Sub.nil) (k_next (k_end Sub.nil)))
noncomputable def p_check_modulus (k : Int) : Res Unit := (tRunF () (if (decide (k < (1 : Int))) then (.ex .range) else (.nx ())))
theorem s_check_modulus (k : Int) : Sm Enc.enc (f_check_modulus [Enc.enc k]) (p_check_modulus k) := by
  unfold f_check_modulus b_check_modulus
  exact fn_simF (r0 := ()) rfl rfl (by decide) (k_ifP (fun η hl h => (u_qB (u_op2 (bP (e_var (x := k) h 0 rfl) (bP (e_lit (x := (1 : Int)) rfl) (l_lt (x := k) (y := (1 : Int)))))))) (k_raise .range Sub.nil) (k_next (k_end Sub.nil)))
noncomputable def p_power (a : Int) (exponent : Int) (k : Int) : Res Int := (tRun (if (decide (exponent < (0 : Int))) then (.ex .range) else (onE (p_check_modulus k) fun u_123 => (onE (imod (1 : Int) k) fun result_111 => (onE (imod a k) fun a_112 => (TF.bind (tWhile (fun (s_113 : (Int × Int × Int)) => (Res.ok (decide (s_113.2.1 > (0 : Int))))) ((a_112, exponent, result_111) : (Int × Int × Int)) (fun (s_113 : (Int × Int × Int)) => (TF.bind (σ := (Int)) (if (decide ((Builtin.bitAnd s_113.2.1 (1 : Int)) = (1 : Int))) then (onE (Res.bind (imul s_113.2.2 s_113.1) fun v_116 => (imod v_116 k)) fun result_117 => (.nx result_117)) else (.nx s_113.2.2)) fun s_118 => (onE (Res.bind (imul s_113.1 s_113.1) fun v_119 => (imod v_119 k)) fun a_120 => (onE (ishr s_113.2.1 (1 : Int)) fun exponent_121 => (.nx (a_120, exponent_121, s_118))))))) fun s_122 => (.rt s_122.2.2)))))))
theorem s_power (a : Int) (exponent : Int) (k : Int) : Sm Enc.enc (f_power [Enc.enc a, Enc.enc exponent, Enc.enc k]) (p_power a exponent k) := by
  unfold f_power b_power w_power_0 q_power_0
  exact fn_sim rfl (by decide) (k_seq (k_ifP (fun η hl h => (u_qB (u_op2 (bP (e_var (x := exponent) h 1 rfl) (bP (e_lit (x := (0 : Int)) rfl) (l_lt (x := exponent) (y := (0 : Int)))))))) (k_raise .range Sub.nil) (k_next (k_seq (k_exprE Sub.nil (fun η hl h => (u_call (a_consP (e_var (x := k) h 2 rfl) (a_nil (s_check_modulus k))))) fun u_123 => (k_seq (k_asgE (r := (imod (1 : Int) k)) (by decide) Sub.nil (fun η hl h => (u_op2 (bP (e_lit (x := (1 : Int)) rfl) (bP (e_var (x := k) h 2 rfl) (l_mod (x := (1 : Int)) (y := k)))))) fun result_111 => (k_seq (k_asgE (r := (imod a k)) (by decide) Sub.nil (fun η hl h => (u_op2 (bP (e_var (x := a) h 0 rfl) (bP (e_var (x := k) h 2 rfl) (l_mod (x := a) (y := k)))))) fun a_112 => (k_seq (k_while (fun (s_113 : (Int × Int × Int)) => [(0, Enc.enc s_113.1), (1, Enc.enc s_113.2.1), (2, Enc.enc k), (3, Enc.enc s_113.2.2)]) (tq := (fun (s_113 : (Int × Int × Int)) => (Res.ok (decide (s_113.2.1 > (0 : Int)))))) (s0 := ((a_112, exponent, result_111) : (Int × Int × Int))) (fun s_113 => Sub.nil) (Sub.of ⟨rfl, rfl, rfl, rfl, trivial⟩) (fun s_113 η hl h => (u_qB (u_op2 (bP (e_var (x := s_113.2.1) h 1 rfl) (bP (e_lit (x := (0 : Int)) rfl) (l_gt (x := s_113.2.1) (y := (0 : Int)))))))) (fun s_113 => (k_seq (k_join (Lm := fun (s_118 : (Int)) => [(0, Enc.enc s_113.1), (1, Enc.enc s_113.2.1), (2, Enc.enc k), (3, Enc.enc s_118)]) (k_ifP (fun η hl h => (u_qB (u_op2 (bP (u_op2 (bP (e_var (x := s_113.2.1) h 1 rfl) (bP (e_lit (x := (1 : Int)) rfl) (l_bitAnd (x := s_113.2.1) (y := (1 : Int)))))) (bP (e_lit (x := (1 : Int)) rfl) (l_eq (x := (Builtin.bitAnd s_113.2.1 (1 : Int))) (y := (1 : Int)))))))) (k_asgE (r := (Res.bind (imul s_113.2.2 s_113.1) fun v_116 => (imod v_116 k))) (by decide) Sub.nil (fun η hl h => (u_op2 (bE (u_op2 (bP (e_var (x := s_113.2.2) h 3 rfl) (bP (e_var (x := s_113.1) h 0 rfl) (l_mul (x := s_113.2.2) (y := s_113.1))))) fun v_116 => (bP (e_var (x := k) h 2 rfl) (l_mod (x := v_116) (y := k)))))) fun result_117 => (k_end (Sub.of ⟨rfl, rfl, rfl, rfl, trivial⟩))) (k_next (k_end (Sub.of ⟨rfl, rfl, rfl, rfl, trivial⟩)))) fun s_118 => (k_seq (k_asgE (r := (Res.bind (imul s_113.1 s_113.1) fun v_119 => (imod v_119 k))) (by decide) Sub.nil (fun η hl h => (u_op2 (bE (u_op2 (bP (e_var (x := s_113.1) h 0 rfl) (bP (e_var (x := s_113.1) h 0 rfl) (l_mul (x := s_113.1) (y := s_113.1))))) fun v_119 => (bP (e_var (x := k) h 2 rfl) (l_mod (x := v_119) (y := k)))))) fun a_120 => (k_asgE (r := (ishr s_113.2.1 (1 : Int))) (by decide) Sub.nil (fun η hl h => (u_op2 (bP (e_var (x := s_113.2.1) h 1 rfl) (bP (e_lit (x := (1 : Int)) rfl) (l_shr (x := s_113.2.1) (y := (1 : Int))))))) fun exponent_121 => (k_end (Sub.of ⟨rfl, rfl, rfl, rfl, trivial⟩)))))))) fun s_122 => (k_retP fun η hl h => (e_var (x := s_122.2.2) h 3 rfl)))))))))))))
noncomputable def p_find_root (prime : Int) (size : Int) : Res Int := (tRun (onE (p_check_size size) fun u_141 => (onE (p_check_prime prime size) fun u_140 => (TF.bind (tWhile (fun (s_110 : (Int)) => (Res.bind (Res.bind (idiv (prime - (1 : Int)) (2 : Int)) fun v_124 => (p_power s_110 v_124 prime)) fun v_125 => (Res.ok (!decide (v_125 = (prime - (1 : Int))))))) ((2 : Int) : (Int)) (fun (s_110 : (Int)) => (onE (Res.ok (s_110 + (1 : Int))) fun base_126 => (.nx base_126)))) fun s_127 => (onE (Res.bind (Res.bind (imul (2 : Int) size) fun v_128 => (idiv (prime - (1 : Int)) v_128)) fun v_129 => (p_power s_127 v_129 prime)) fun root_130 => (onE (Res.bind (imul root_130 root_130) fun v_131 => (imod v_131 prime)) fun square_132 => (onE (irange (size - (1 : Int))) fun xs_139 => TF.bind (tFor xs_139 ((root_130, root_130) : (Int × Int)) (fun (x_134 : Int) (s_133 : (Int × Int)) => (onE (Res.bind (imul s_133.1 square_132) fun v_135 => (imod v_135 prime)) fun root_136 => (onE (Res.ok (imin2 s_133.2 root_136)) fun least_137 => (.nx (root_136, least_137)))))) fun s_138 => (.rt s_138.2))))))))
theorem s_find_root (prime : Int) (size : Int) : Sm Enc.enc (f_find_root [Enc.enc prime, Enc.enc size]) (p_find_root prime size) := by
  unfold f_find_root b_find_root w_find_root_1 w_find_root_0 q_find_root_0
  exact fn_sim rfl (by decide) (k_seq (k_exprE Sub.nil (fun η hl h => (u_call (a_consP (e_var (x := size) h 1 rfl) (a_nil (s_check_size size))))) fun u_141 => (k_seq (k_exprE Sub.nil (fun η hl h => (u_call (a_consP (e_var (x := prime) h 0 rfl) (a_consP (e_var (x := size) h 1 rfl) (a_nil (s_check_prime prime size)))))) fun u_140 => (k_seq (k_asgP (by decide) (fun η hl h => (e_lit (x := (2 : Int)) rfl)) (k_seq (k_while (fun (s_110 : (Int)) => [(0, Enc.enc prime), (1, Enc.enc size), (2, Enc.enc s_110)]) (tq := (fun (s_110 : (Int)) => (Res.bind (Res.bind (idiv (prime - (1 : Int)) (2 : Int)) fun v_124 => (p_power s_110 v_124 prime)) fun v_125 => (Res.ok (!decide (v_125 = (prime - (1 : Int)))))))) (s0 := ((2 : Int) : (Int))) (fun s_110 => Sub.nil) (Sub.of ⟨rfl, rfl, rfl, trivial⟩) (fun s_110 η hl h => (u_qB (u_op2 (bE (u_call (a_consP (e_var (x := s_110) h 2 rfl) (a_consE (u_op2 (bP (u_op2 (bP (e_var (x := prime) h 0 rfl) (bP (e_lit (x := (1 : Int)) rfl) (l_sub (x := prime) (y := (1 : Int)))))) (bP (e_lit (x := (2 : Int)) rfl) (l_div (x := (prime - (1 : Int))) (y := (2 : Int)))))) fun v_124 => (a_consP (e_var (x := prime) h 0 rfl) (a_nil (s_power s_110 v_124 prime)))))) fun v_125 => (bP (u_op2 (bP (e_var (x := prime) h 0 rfl) (bP (e_lit (x := (1 : Int)) rfl) (l_sub (x := prime) (y := (1 : Int)))))) (l_ne (x := v_125) (y := (prime - (1 : Int))))))))) (fun s_110 => (k_asgE (r := (Res.ok (s_110 + (1 : Int)))) (by decide) Sub.nil (fun η hl h => (u_op2 (bP (e_var (x := s_110) h 2 rfl) (bP (e_lit (x := (1 : Int)) rfl) (l_add (x := s_110) (y := (1 : Int))))))) fun base_126 => (k_end (Sub.of ⟨rfl, rfl, rfl, trivial⟩)))) fun s_127 => (k_seq (k_asgE (r := (Res.bind (Res.bind (imul (2 : Int) size) fun v_128 => (idiv (prime - (1 : Int)) v_128)) fun v_129 => (p_power s_127 v_129 prime))) (by decide) Sub.nil (fun η hl h => (u_call (a_consP (e_var (x := s_127) h 2 rfl) (a_consE (u_op2 (bP (u_op2 (bP (e_var (x := prime) h 0 rfl) (bP (e_lit (x := (1 : Int)) rfl) (l_sub (x := prime) (y := (1 : Int)))))) (bE (u_op2 (bP (e_lit (x := (2 : Int)) rfl) (bP (e_var (x := size) h 1 rfl) (l_mul (x := (2 : Int)) (y := size))))) fun v_128 => (l_div (x := (prime - (1 : Int))) (y := v_128))))) fun v_129 => (a_consP (e_var (x := prime) h 0 rfl) (a_nil (s_power s_127 v_129 prime))))))) fun root_130 => (k_seq (k_asgE (r := (Res.bind (imul root_130 root_130) fun v_131 => (imod v_131 prime))) (by decide) Sub.nil (fun η hl h => (u_op2 (bE (u_op2 (bP (e_var (x := root_130) h 3 rfl) (bP (e_var (x := root_130) h 3 rfl) (l_mul (x := root_130) (y := root_130))))) fun v_131 => (bP (e_var (x := prime) h 0 rfl) (l_mod (x := v_131) (y := prime)))))) fun square_132 => (k_seq (k_asgP (by decide) (fun η hl h => (e_var (x := root_130) h 3 rfl)) (k_seq (k_for (ri := (irange (size - (1 : Int)))) (fun (s_133 : (Int × Int)) => [(0, Enc.enc prime), (3, Enc.enc s_133.1), (4, Enc.enc square_132), (5, Enc.enc s_133.2)]) (s0 := ((root_130, root_130) : (Int × Int))) Sub.nil (fun η hl h => (i_range1P (u_op2 (bP (e_var (x := size) h 1 rfl) (bP (e_lit (x := (1 : Int)) rfl) (l_sub (x := size) (y := (1 : Int)))))))) (Sub.of ⟨rfl, rfl, rfl, rfl, trivial⟩) (fun x_134 s_133 => (t_name 6 (by decide))) (fun x_134 s_133 => (k_seq (k_asgE (r := (Res.bind (imul s_133.1 square_132) fun v_135 => (imod v_135 prime))) (by decide) Sub.nil (fun η hl h => (u_op2 (bE (u_op2 (bP (e_var (x := s_133.1) h 3 rfl) (bP (e_var (x := square_132) h 4 rfl) (l_mul (x := s_133.1) (y := square_132))))) fun v_135 => (bP (e_var (x := prime) h 0 rfl) (l_mod (x := v_135) (y := prime)))))) fun root_136 => (k_asgE (r := (Res.ok (imin2 s_133.2 root_136))) (by decide) Sub.nil (fun η hl h => (u_call (a_consP (e_var (x := s_133.2) h 5 rfl) (a_consP (e_var (x := root_136) h 3 rfl) (a_nil (l_min2 (x := s_133.2) (y := root_136))))))) fun least_137 => (k_end (Sub.of ⟨rfl, rfl, rfl, rfl, trivial⟩)))))) fun s_138 => (k_retP fun η hl h => (e_var (x := s_138.2) h 5 rfl))))))))))))))))))
noncomputable def p__law_power (a : Int) (exponent : Int) (prime : Int) : Res Int := (tRun (onE (irange exponent) fun xs_149 => TF.bind (tFor xs_149 ((1 : Int) : (Int)) (fun (x_144 : Int) (s_143 : (Int)) => (onE (Res.bind (Res.bind (imul s_143 a) fun v_145 => (Res.ok v_145)) fun v_146 => (imod v_146 prime)) fun result_147 => (.nx result_147)))) fun s_148 => (.rt s_148)))
theorem s__law_power (a : Int) (exponent : Int) (prime : Int) : Sm Enc.enc (f__law_power [Enc.enc a, Enc.enc exponent, Enc.enc prime]) (p__law_power a exponent prime) := by
  unfold f__law_power b__law_power w__law_power_0
  exact fn_sim rfl (by decide) (k_seq (k_asgP (by decide) (fun η hl h => (e_lit (x := (1 : Int)) rfl)) (k_seq (k_for (ri := (irange exponent)) (fun (s_143 : (Int)) => [(0, Enc.enc a), (2, Enc.enc prime), (3, Enc.enc s_143)]) (s0 := ((1 : Int) : (Int))) Sub.nil (fun η hl h => (i_range1P (e_var (x := exponent) h 1 rfl))) (Sub.of ⟨rfl, rfl, rfl, trivial⟩) (fun x_144 s_143 => (t_name 4 (by decide))) (fun x_144 s_143 => (k_asgE (r := (Res.bind (Res.bind (imul s_143 a) fun v_145 => (Res.ok v_145)) fun v_146 => (imod v_146 prime))) (by decide) Sub.nil (fun η hl h => (u_op2 (bE (u_call (a_consE (u_op2 (bP (e_var (x := s_143) h 3 rfl) (bP (e_var (x := a) h 0 rfl) (l_mul (x := s_143) (y := a))))) fun v_145 => (a_nil (l_int (x := v_145))))) fun v_146 => (bP (e_var (x := prime) h 2 rfl) (l_mod (x := v_146) (y := prime)))))) fun result_147 => (k_end (Sub.of ⟨rfl, rfl, rfl, trivial⟩)))) fun s_148 => (k_retP fun η hl h => (e_var (x := s_148) h 3 rfl))))))
noncomputable def p__law_mixed (cell : Int) (k : Int) : Res Int := (tRun (onE (Res.bind (Res.bind (Res.bind (imul cell (48271 : Int)) fun v_177 => (Res.bind (imul k (69621 : Int)) fun v_178 => (Res.ok (v_177 + v_178)))) fun v_179 => (Res.ok (v_179 + (7 : Int)))) fun v_180 => (imod v_180 (2147483647 : Int))) fun x_181 => (onE (Res.bind (Res.bind (Res.bind (imul x_181 x_181) fun v_182 => (Res.bind (imul k (40692 : Int)) fun v_183 => (Res.ok (v_182 + v_183)))) fun v_184 => (Res.ok (v_184 + (3 : Int)))) fun v_185 => (imod v_185 (2147483629 : Int))) fun x_186 => (onE (Res.bind (Res.bind (Res.bind (imul x_186 x_186) fun v_187 => (Res.bind (imul k (30269 : Int)) fun v_188 => (Res.ok (v_187 + v_188)))) fun v_189 => (Res.ok (v_189 + (5 : Int)))) fun v_190 => (imod v_190 (2147483587 : Int))) fun x_191 => (onE (idiv x_191 (64 : Int)) TF.rt)))))
theorem s__law_mixed (cell : Int) (k : Int) : Sm Enc.enc (f__law_mixed [Enc.enc cell, Enc.enc k]) (p__law_mixed cell k) := by
  unfold f__law_mixed b__law_mixed
  exact fn_sim rfl (by decide) (k_seq (k_asgE (r := (Res.bind (Res.bind (Res.bind (imul cell (48271 : Int)) fun v_177 => (Res.bind (imul k (69621 : Int)) fun v_178 => (Res.ok (v_177 + v_178)))) fun v_179 => (Res.ok (v_179 + (7 : Int)))) fun v_180 => (imod v_180 (2147483647 : Int)))) (by decide) Sub.nil (fun η hl h => (u_op2 (bE (u_op2 (bE (u_op2 (bE (u_op2 (bP (u_call (a_consP (e_var (x := cell) h 0 rfl) (a_nil (l_int (x := cell))))) (bP (e_lit (x := (48271 : Int)) rfl) (l_mul (x := cell) (y := (48271 : Int)))))) fun v_177 => (bE (u_op2 (bP (e_var (x := k) h 1 rfl) (bP (e_lit (x := (69621 : Int)) rfl) (l_mul (x := k) (y := (69621 : Int)))))) fun v_178 => (l_add (x := v_177) (y := v_178))))) fun v_179 => (bP (e_lit (x := (7 : Int)) rfl) (l_add (x := v_179) (y := (7 : Int)))))) fun v_180 => (bP (e_lit (x := (2147483647 : Int)) rfl) (l_mod (x := v_180) (y := (2147483647 : Int))))))) fun x_181 => (k_seq (k_asgE (r := (Res.bind (Res.bind (Res.bind (imul x_181 x_181) fun v_182 => (Res.bind (imul k (40692 : Int)) fun v_183 => (Res.ok (v_182 + v_183)))) fun v_184 => (Res.ok (v_184 + (3 : Int)))) fun v_185 => (imod v_185 (2147483629 : Int)))) (by decide) Sub.nil (fun η hl h => (u_op2 (bE (u_op2 (bE (u_op2 (bE (u_op2 (bP (e_var (x := x_181) h 2 rfl) (bP (e_var (x := x_181) h 2 rfl) (l_mul (x := x_181) (y := x_181))))) fun v_182 => (bE (u_op2 (bP (e_var (x := k) h 1 rfl) (bP (e_lit (x := (40692 : Int)) rfl) (l_mul (x := k) (y := (40692 : Int)))))) fun v_183 => (l_add (x := v_182) (y := v_183))))) fun v_184 => (bP (e_lit (x := (3 : Int)) rfl) (l_add (x := v_184) (y := (3 : Int)))))) fun v_185 => (bP (e_lit (x := (2147483629 : Int)) rfl) (l_mod (x := v_185) (y := (2147483629 : Int))))))) fun x_186 => (k_seq (k_asgE (r := (Res.bind (Res.bind (Res.bind (imul x_186 x_186) fun v_187 => (Res.bind (imul k (30269 : Int)) fun v_188 => (Res.ok (v_187 + v_188)))) fun v_189 => (Res.ok (v_189 + (5 : Int)))) fun v_190 => (imod v_190 (2147483587 : Int)))) (by decide) Sub.nil (fun η hl h => (u_op2 (bE (u_op2 (bE (u_op2 (bE (u_op2 (bP (e_var (x := x_186) h 2 rfl) (bP (e_var (x := x_186) h 2 rfl) (l_mul (x := x_186) (y := x_186))))) fun v_187 => (bE (u_op2 (bP (e_var (x := k) h 1 rfl) (bP (e_lit (x := (30269 : Int)) rfl) (l_mul (x := k) (y := (30269 : Int)))))) fun v_188 => (l_add (x := v_187) (y := v_188))))) fun v_189 => (bP (e_lit (x := (5 : Int)) rfl) (l_add (x := v_189) (y := (5 : Int)))))) fun v_190 => (bP (e_lit (x := (2147483587 : Int)) rfl) (l_mod (x := v_190) (y := (2147483587 : Int))))))) fun x_191 => (k_retE Sub.nil fun η hl h => (u_op2 (bP (e_var (x := x_191) h 2 rfl) (bP (e_lit (x := (64 : Int)) rfl) (l_div (x := x_191) (y := (64 : Int)))))))))))))
noncomputable def p__law_wide (cell : Int) (k : Int) (most : Int) : Res Int := (tRun (onE (Res.bind (Res.bind (p__law_mixed cell k) fun v_192 => (imul v_192 (33554432 : Int))) fun v_193 => (Res.bind (p__law_mixed cell (k + (100 : Int))) fun v_194 => (Res.ok (v_193 + v_194)))) fun number_195 => (onE (Res.bind (ishl (1 : Int) (45 : Int)) fun v_196 => (Res.ok (decide (most ≥ v_196)))) fun c => if c then (onE (irange2 (2 : Int) (6 : Int)) fun xs_205 => TF.bind (tFor xs_205 (number_195 : (Int)) (fun (x_198 : Int) (s_197 : (Int)) => (onE (Res.bind (imul s_197 (33554432 : Int)) fun v_201 => (Res.bind (Res.bind (Res.bind (imul (100 : Int) x_198) fun v_199 => (Res.ok (k + v_199))) fun v_200 => (p__law_mixed cell v_200)) fun v_202 => (Res.ok (v_201 + v_202)))) fun number_203 => (.nx number_203)))) fun s_204 => (.rt s_204)) else (.rt number_195))))
theorem s__law_wide (cell : Int) (k : Int) (most : Int) : Sm Enc.enc (f__law_wide [Enc.enc cell, Enc.enc k, Enc.enc most]) (p__law_wide cell k most) := by
  unfold f__law_wide b__law_wide w__law_wide_0
  exact fn_sim rfl (by decide) (k_seq (k_asgE (r := (Res.bind (Res.bind (p__law_mixed cell k) fun v_192 => (imul v_192 (33554432 : Int))) fun v_193 => (Res.bind (p__law_mixed cell (k + (100 : Int))) fun v_194 => (Res.ok (v_193 + v_194))))) (by decide) Sub.nil (fun η hl h => (u_op2 (bE (u_op2 (bE (u_call (a_consP (e_var (x := cell) h 0 rfl) (a_consP (e_var (x := k) h 1 rfl) (a_nil (s__law_mixed cell k))))) fun v_192 => (bP (e_lit (x := (33554432 : Int)) rfl) (l_mul (x := v_192) (y := (33554432 : Int)))))) fun v_193 => (bE (u_call (a_consP (e_var (x := cell) h 0 rfl) (a_consP (u_op2 (bP (e_var (x := k) h 1 rfl) (bP (e_lit (x := (100 : Int)) rfl) (l_add (x := k) (y := (100 : Int)))))) (a_nil (s__law_mixed cell (k + (100 : Int))))))) fun v_194 => (l_add (x := v_193) (y := v_194)))))) fun number_195 => (k_seq (k_ifE Sub.nil (fun η hl h => (u_qB (u_op2 (bP (e_var (x := most) h 2 rfl) (bE (u_op2 (bP (e_lit (x := (1 : Int)) rfl) (bP (e_lit (x := (45 : Int)) rfl) (l_shl (x := (1 : Int)) (y := (45 : Int)))))) fun v_196 => (l_ge (x := most) (y := v_196))))))) (k_for (ri := (irange2 (2 : Int) (6 : Int))) (fun (s_197 : (Int)) => [(0, Enc.enc cell), (1, Enc.enc k), (3, Enc.enc s_197)]) (s0 := (number_195 : (Int))) Sub.nil (fun η hl h => (i_range2P (e_lit (x := (2 : Int)) rfl) (e_lit (x := (6 : Int)) rfl))) (Sub.of ⟨rfl, rfl, rfl, trivial⟩) (fun x_198 s_197 => (t_name 4 (by decide))) (fun x_198 s_197 => (k_asgE (r := (Res.bind (imul s_197 (33554432 : Int)) fun v_201 => (Res.bind (Res.bind (Res.bind (imul (100 : Int) x_198) fun v_199 => (Res.ok (k + v_199))) fun v_200 => (p__law_mixed cell v_200)) fun v_202 => (Res.ok (v_201 + v_202))))) (by decide) Sub.nil (fun η hl h => (u_op2 (bE (u_op2 (bP (e_var (x := s_197) h 3 rfl) (bP (e_lit (x := (33554432 : Int)) rfl) (l_mul (x := s_197) (y := (33554432 : Int)))))) fun v_201 => (bE (u_call (a_consP (e_var (x := cell) h 0 rfl) (a_consE (u_op2 (bP (e_var (x := k) h 1 rfl) (bE (u_op2 (bP (e_lit (x := (100 : Int)) rfl) (bP (e_var (x := x_198) h 4 rfl) (l_mul (x := (100 : Int)) (y := x_198))))) fun v_199 => (l_add (x := k) (y := v_199))))) fun v_200 => (a_nil (s__law_mixed cell v_200))))) fun v_202 => (l_add (x := v_201) (y := v_202)))))) fun number_203 => (k_end (Sub.of ⟨rfl, rfl, rfl, trivial⟩)))) fun s_204 => (k_retP fun η hl h => (u_call (a_consP (e_var (x := s_204) h 3 rfl) (a_nil (l_int (x := s_204))))))) (k_next (k_retP fun η hl h => (u_call (a_consP (e_var (x := number_195) h 3 rfl) (a_nil (l_int (x := number_195)))))))))))
noncomputable def p__law_poly (cell : Int) (size : Int) (most : Int) : Res (List Int) := (tRun (onE (Res.ok (iabs cell)) fun left_163 => (onE (Res.bind (ipow (10 : Int) (18 : Int)) fun v_164 => (Res.ok (decide (left_163 ≥ v_164)))) fun great_165 => (onE (Res.ok ([] : List Int)) fun row_166 => (onE (irange size) fun xs_212 => TF.bind (tFor xs_212 ((left_163, row_166) : (Int × (List Int))) (fun (x_168 : Int) (s_167 : (Int × (List Int))) => (if (great_165 && (decide (s_167.1 > (0 : Int)))) then (onE (Res.bind (Res.bind (Res.bind (Res.bind (Res.bind (imul (2 : Int) most) fun v_169 => (Res.ok (v_169 + (1 : Int)))) fun v_170 => (imod s_167.1 v_170)) fun v_171 => (Res.ok v_171)) fun v_172 => (Res.ok (v_172 - most))) fun x => lapp s_167.2 x) fun row_173 => (onE (Res.bind (Res.bind (imul (2 : Int) most) fun v_174 => (Res.ok (v_174 + (1 : Int)))) fun v_175 => (idiv s_167.1 v_175)) fun left_176 => (.nx (left_176, row_173)))) else (onE (Res.bind (Res.bind (Res.bind (p__law_wide cell x_168 most) fun v_207 => (Res.bind (Res.bind (imul (2 : Int) most) fun v_206 => (Res.ok (v_206 + (1 : Int)))) fun v_208 => (imod v_207 v_208))) fun v_209 => (Res.ok (v_209 - most))) fun x => lapp s_167.2 x) fun row_210 => (.nx (s_167.1, row_210)))))) fun s_211 => (.rt s_211.2))))))
theorem s__law_poly (cell : Int) (size : Int) (most : Int) : Sm Enc.enc (f__law_poly [Enc.enc cell, Enc.enc size, Enc.enc most]) (p__law_poly cell size most) := by
  unfold f__law_poly b__law_poly w__law_poly_0
  exact fn_sim rfl (by decide) (k_seq (k_asgE (r := (Res.ok (iabs cell))) (by decide) Sub.nil (fun η hl h => (u_call (a_consP (u_call (a_consP (e_var (x := cell) h 0 rfl) (a_nil (l_int (x := cell))))) (a_nil (l_abs (x := cell)))))) fun left_163 => (k_seq (k_asgE (r := (Res.bind (ipow (10 : Int) (18 : Int)) fun v_164 => (Res.ok (decide (left_163 ≥ v_164))))) (by decide) Sub.nil (fun η hl h => (u_op2 (bP (e_var (x := left_163) h 3 rfl) (bE (u_op2 (bP (e_lit (x := (10 : Int)) rfl) (bP (e_lit (x := (18 : Int)) rfl) (l_pow (x := (10 : Int)) (y := (18 : Int)))))) fun v_164 => (l_ge (x := left_163) (y := v_164)))))) fun great_165 => (k_seq (k_asgE (r := (Res.ok ([] : List Int))) (by decide) Sub.nil (fun η hl h => (u_lst (a_nil (l_lst (xs := ([] : List Int)) rfl rfl)))) fun row_166 => (k_seq (k_for (ri := (irange size)) (fun (s_167 : (Int × (List Int))) => [(0, Enc.enc cell), (2, Enc.enc most), (3, Enc.enc s_167.1), (4, Enc.enc great_165), (5, Enc.enc s_167.2)]) (s0 := ((left_163, row_166) : (Int × (List Int)))) Sub.nil (fun η hl h => (i_range1P (e_var (x := size) h 1 rfl))) (Sub.of ⟨rfl, rfl, rfl, rfl, rfl, trivial⟩) (fun x_168 s_167 => (t_name 6 (by decide))) (fun x_168 s_167 => (k_ifP (fun η hl h => (u_qAndP (u_qTruB (e_var (x := great_165) h 4 rfl)) (u_qB (u_op2 (bP (e_var (x := s_167.1) h 3 rfl) (bP (e_lit (x := (0 : Int)) rfl) (l_gt (x := s_167.1) (y := (0 : Int))))))))) (k_seq (k_app (xs := s_167.2) (by decide) Sub.nil rfl (fun η hl h => (u_op2 (bE (u_call (a_consE (u_op2 (bP (e_var (x := s_167.1) h 3 rfl) (bE (u_op2 (bE (u_op2 (bP (e_lit (x := (2 : Int)) rfl) (bP (e_var (x := most) h 2 rfl) (l_mul (x := (2 : Int)) (y := most))))) fun v_169 => (bP (e_lit (x := (1 : Int)) rfl) (l_add (x := v_169) (y := (1 : Int)))))) fun v_170 => (l_mod (x := s_167.1) (y := v_170))))) fun v_171 => (a_nil (l_int (x := v_171))))) fun v_172 => (bP (e_var (x := most) h 2 rfl) (l_sub (x := v_172) (y := most)))))) fun row_173 => (k_asgE (r := (Res.bind (Res.bind (imul (2 : Int) most) fun v_174 => (Res.ok (v_174 + (1 : Int)))) fun v_175 => (idiv s_167.1 v_175))) (by decide) Sub.nil (fun η hl h => (u_op2 (bP (e_var (x := s_167.1) h 3 rfl) (bE (u_op2 (bE (u_op2 (bP (e_lit (x := (2 : Int)) rfl) (bP (e_var (x := most) h 2 rfl) (l_mul (x := (2 : Int)) (y := most))))) fun v_174 => (bP (e_lit (x := (1 : Int)) rfl) (l_add (x := v_174) (y := (1 : Int)))))) fun v_175 => (l_div (x := s_167.1) (y := v_175)))))) fun left_176 => (k_end (Sub.of ⟨rfl, rfl, rfl, rfl, rfl, trivial⟩))))) (k_app (xs := s_167.2) (by decide) Sub.nil rfl (fun η hl h => (u_op2 (bE (u_op2 (bE (u_call (a_consP (e_var (x := cell) h 0 rfl) (a_consP (e_var (x := x_168) h 6 rfl) (a_consP (e_var (x := most) h 2 rfl) (a_nil (s__law_wide cell x_168 most)))))) fun v_207 => (bE (u_op2 (bE (u_op2 (bP (e_lit (x := (2 : Int)) rfl) (bP (e_var (x := most) h 2 rfl) (l_mul (x := (2 : Int)) (y := most))))) fun v_206 => (bP (e_lit (x := (1 : Int)) rfl) (l_add (x := v_206) (y := (1 : Int)))))) fun v_208 => (l_mod (x := v_207) (y := v_208))))) fun v_209 => (bP (e_var (x := most) h 2 rfl) (l_sub (x := v_209) (y := most)))))) fun row_210 => (k_end (Sub.of ⟨rfl, rfl, rfl, rfl, rfl, trivial⟩))))) fun s_211 => (k_retP fun η hl h => (e_var (x := s_211.2) h 5 rfl))))))))))
noncomputable def p_transform (a : (List Int)) (prime : Int) : Res (List Int) := (tRun (onE (p_find_root prime (ilen a)) fun root_217 => (onE (Res.bind (imul root_217 root_217) fun v_218 => (imod v_218 prime)) fun square_219 => (onE (Res.ok ([] : List Int)) fun values_220 => (onE (irange (ilen a)) fun xs_233 => TF.bind (tFor xs_233 ((values_220, root_217) : ((List Int) × Int)) (fun (x_222 : Int) (s_221 : ((List Int) × Int)) => (TF.bind (tFor (a).reverse ((0 : Int) : (Int)) (fun (x_224 : Int) (s_223 : (Int)) => (onE (Res.bind (Res.bind (imul s_223 s_221.2) fun v_225 => (Res.ok (v_225 + x_224))) fun v_226 => (imod v_226 prime)) fun value_227 => (.nx value_227)))) fun s_228 => (onE (lapp s_221.1 s_228) fun values_229 => (onE (Res.bind (imul s_221.2 square_219) fun v_230 => (imod v_230 prime)) fun point_231 => (.nx (values_229, point_231))))))) fun s_232 => (.rt s_232.1))))))
theorem s_transform (a : (List Int)) (prime : Int) : Sm Enc.enc (f_transform [Enc.enc a, Enc.enc prime]) (p_transform a prime) := by
  unfold f_transform b_transform w_transform_1 w_transform_0
  exact fn_sim rfl (by decide) (k_seq (k_asgE (r := (p_find_root prime (ilen a))) (by decide) Sub.nil (fun η hl h => (u_call (a_consP (e_var (x := prime) h 1 rfl) (a_consP (u_call (a_consP (e_var (x := a) h 0 rfl) (a_nil (l_len (xs := a))))) (a_nil (s_find_root prime (ilen a))))))) fun root_217 => (k_seq (k_asgE (r := (Res.bind (imul root_217 root_217) fun v_218 => (imod v_218 prime))) (by decide) Sub.nil (fun η hl h => (u_op2 (bE (u_op2 (bP (e_var (x := root_217) h 2 rfl) (bP (e_var (x := root_217) h 2 rfl) (l_mul (x := root_217) (y := root_217))))) fun v_218 => (bP (e_var (x := prime) h 1 rfl) (l_mod (x := v_218) (y := prime)))))) fun square_219 => (k_seq (k_asgE (r := (Res.ok ([] : List Int))) (by decide) Sub.nil (fun η hl h => (u_lst (a_nil (l_lst (xs := ([] : List Int)) rfl rfl)))) fun values_220 => (k_seq (k_asgP (by decide) (fun η hl h => (e_var (x := root_217) h 2 rfl)) (k_seq (k_for (ri := (irange (ilen a))) (fun (s_221 : ((List Int) × Int)) => [(0, Enc.enc a), (1, Enc.enc prime), (3, Enc.enc square_219), (4, Enc.enc s_221.1), (5, Enc.enc s_221.2)]) (s0 := ((values_220, root_217) : ((List Int) × Int))) Sub.nil (fun η hl h => (i_range1P (u_call (a_consP (e_var (x := a) h 0 rfl) (a_nil (l_len (xs := a))))))) (Sub.of ⟨rfl, rfl, rfl, rfl, rfl, trivial⟩) (fun x_222 s_221 => (t_name 6 (by decide))) (fun x_222 s_221 => (k_seq (k_asgP (by decide) (fun η hl h => (e_lit (x := (0 : Int)) rfl)) (k_seq (k_forP (xs := (a).reverse) (fun (s_223 : (Int)) => [(0, Enc.enc a), (1, Enc.enc prime), (3, Enc.enc square_219), (4, Enc.enc s_221.1), (5, Enc.enc s_221.2), (7, Enc.enc s_223)]) (s0 := ((0 : Int) : (Int))) (fun η hl h => (i_revP (e_var (x := a) h 0 rfl))) (Sub.of ⟨rfl, rfl, rfl, rfl, rfl, rfl, trivial⟩) (fun x_224 s_223 => (t_name 8 (by decide))) (fun x_224 s_223 => (k_asgE (r := (Res.bind (Res.bind (imul s_223 s_221.2) fun v_225 => (Res.ok (v_225 + x_224))) fun v_226 => (imod v_226 prime))) (by decide) Sub.nil (fun η hl h => (u_op2 (bE (u_op2 (bE (u_op2 (bP (e_var (x := s_223) h 7 rfl) (bP (e_var (x := s_221.2) h 5 rfl) (l_mul (x := s_223) (y := s_221.2))))) fun v_225 => (bP (e_var (x := x_224) h 8 rfl) (l_add (x := v_225) (y := x_224))))) fun v_226 => (bP (e_var (x := prime) h 1 rfl) (l_mod (x := v_226) (y := prime)))))) fun value_227 => (k_end (Sub.of ⟨rfl, rfl, rfl, rfl, rfl, rfl, trivial⟩)))) fun s_228 => (k_seq (k_appP (xs := s_221.1) (x := s_228) (by decide) Sub.nil rfl (fun η hl h => (e_var (x := s_228) h 7 rfl)) fun values_229 => (k_asgE (r := (Res.bind (imul s_221.2 square_219) fun v_230 => (imod v_230 prime))) (by decide) Sub.nil (fun η hl h => (u_op2 (bE (u_op2 (bP (e_var (x := s_221.2) h 5 rfl) (bP (e_var (x := square_219) h 3 rfl) (l_mul (x := s_221.2) (y := square_219))))) fun v_230 => (bP (e_var (x := prime) h 1 rfl) (l_mod (x := v_230) (y := prime)))))) fun point_231 => (k_end (Sub.of ⟨rfl, rfl, rfl, rfl, rfl, trivial⟩)))))))))) fun s_232 => (k_retP fun η hl h => (e_var (x := s_232.1) h 4 rfl))))))))))))
noncomputable def p__law_values (a : (List Int)) (root : Int) (prime : Int) : Res (List Int) := (tRun (onE (Res.ok ([] : List Int)) fun values_235 => (onE (irange (ilen a)) fun xs_250 => TF.bind (tFor xs_250 (values_235 : ((List Int))) (fun (x_237 : Int) (s_236 : ((List Int))) => (onE (Res.bind (Res.bind (imul (2 : Int) x_237) fun v_238 => (Res.ok (v_238 + (1 : Int)))) fun v_239 => (p__law_power root v_239 prime)) fun point_240 => (TF.bind (tFor (a).reverse ((0 : Int) : (Int)) (fun (x_242 : Int) (s_241 : (Int)) => (onE (Res.bind (Res.bind (Res.bind (imul s_241 point_240) fun v_243 => (Res.ok (v_243 + x_242))) fun v_244 => (Res.ok v_244)) fun v_245 => (imod v_245 prime)) fun value_246 => (.nx value_246)))) fun s_247 => (onE (lapp s_236 s_247) fun values_248 => (.nx values_248)))))) fun s_249 => (.rt s_249))))
theorem s__law_values (a : (List Int)) (root : Int) (prime : Int) : Sm Enc.enc (f__law_values [Enc.enc a, Enc.enc root, Enc.enc prime]) (p__law_values a root prime) := by
  unfold f__law_values b__law_values w__law_values_1 w__law_values_0
  exact fn_sim rfl (by decide) (k_seq (k_asgE (r := (Res.ok ([] : List Int))) (by decide) Sub.nil (fun η hl h => (u_lst (a_nil (l_lst (xs := ([] : List Int)) rfl rfl)))) fun values_235 => (k_seq (k_for (ri := (irange (ilen a))) (fun (s_236 : ((List Int))) => [(0, Enc.enc a), (1, Enc.enc root), (2, Enc.enc prime), (3, Enc.enc s_236)]) (s0 := (values_235 : ((List Int)))) Sub.nil (fun η hl h => (i_range1P (u_call (a_consP (e_var (x := a) h 0 rfl) (a_nil (l_len (xs := a))))))) (Sub.of ⟨rfl, rfl, rfl, rfl, trivial⟩) (fun x_237 s_236 => (t_name 4 (by decide))) (fun x_237 s_236 => (k_seq (k_asgE (r := (Res.bind (Res.bind (imul (2 : Int) x_237) fun v_238 => (Res.ok (v_238 + (1 : Int)))) fun v_239 => (p__law_power root v_239 prime))) (by decide) Sub.nil (fun η hl h => (u_call (a_consP (e_var (x := root) h 1 rfl) (a_consE (u_op2 (bE (u_op2 (bP (e_lit (x := (2 : Int)) rfl) (bP (e_var (x := x_237) h 4 rfl) (l_mul (x := (2 : Int)) (y := x_237))))) fun v_238 => (bP (e_lit (x := (1 : Int)) rfl) (l_add (x := v_238) (y := (1 : Int)))))) fun v_239 => (a_consP (e_var (x := prime) h 2 rfl) (a_nil (s__law_power root v_239 prime))))))) fun point_240 => (k_seq (k_asgP (by decide) (fun η hl h => (e_lit (x := (0 : Int)) rfl)) (k_seq (k_forP (xs := (a).reverse) (fun (s_241 : (Int)) => [(0, Enc.enc a), (1, Enc.enc root), (2, Enc.enc prime), (3, Enc.enc s_236), (5, Enc.enc point_240), (6, Enc.enc s_241)]) (s0 := ((0 : Int) : (Int))) (fun η hl h => (i_revP (e_var (x := a) h 0 rfl))) (Sub.of ⟨rfl, rfl, rfl, rfl, rfl, rfl, trivial⟩) (fun x_242 s_241 => (t_name 7 (by decide))) (fun x_242 s_241 => (k_asgE (r := (Res.bind (Res.bind (Res.bind (imul s_241 point_240) fun v_243 => (Res.ok (v_243 + x_242))) fun v_244 => (Res.ok v_244)) fun v_245 => (imod v_245 prime))) (by decide) Sub.nil (fun η hl h => (u_op2 (bE (u_call (a_consE (u_op2 (bE (u_op2 (bP (e_var (x := s_241) h 6 rfl) (bP (e_var (x := point_240) h 5 rfl) (l_mul (x := s_241) (y := point_240))))) fun v_243 => (bP (e_var (x := x_242) h 7 rfl) (l_add (x := v_243) (y := x_242))))) fun v_244 => (a_nil (l_int (x := v_244))))) fun v_245 => (bP (e_var (x := prime) h 2 rfl) (l_mod (x := v_245) (y := prime)))))) fun value_246 => (k_end (Sub.of ⟨rfl, rfl, rfl, rfl, rfl, rfl, trivial⟩)))) fun s_247 => (k_appP (xs := s_236) (x := s_247) (by decide) Sub.nil rfl (fun η hl h => (e_var (x := s_247) h 6 rfl)) fun values_248 => (k_end (Sub.of ⟨rfl, rfl, rfl, rfl, trivial⟩)))))))))) fun s_249 => (k_retP fun η hl h => (e_var (x := s_249) h 3 rfl))))))
noncomputable def p_inverse (a : Int) (k : Int) : Res Int := (tRun (onE (p_check_modulus k) fun u_266 => (onE (Res.bind (imod a k) fun v_255 => (Res.ok ((k, v_255) : (Int × Int)))) fun p_254 => (onE (Res.ok (((0 : Int), (1 : Int)) : (Int × Int))) fun p_256 => (TF.bind (tWhile (fun (s_257 : (Int × Int × Int × Int)) => (Res.ok (decide (s_257.2.1 > (0 : Int))))) ((p_254.1, p_254.2, p_256.1, p_256.2) : (Int × Int × Int × Int)) (fun (s_257 : (Int × Int × Int × Int)) => (onE (idiv s_257.1 s_257.2.1) fun part_258 => (onE (Res.bind (Res.bind (imul part_258 s_257.2.1) fun v_259 => (Res.ok (s_257.1 - v_259))) fun v_261 => (Res.ok ((s_257.2.1, v_261) : (Int × Int)))) fun p_260 => (onE (Res.bind (Res.bind (imul part_258 s_257.2.2.2) fun v_262 => (Res.ok (s_257.2.2.1 - v_262))) fun v_264 => (Res.ok ((s_257.2.2.2, v_264) : (Int × Int)))) fun p_263 => (.nx (p_260.1, p_260.2, p_263.1, p_263.2))))))) fun s_265 => (if (!decide (s_265.1 = (1 : Int))) then (.ex .notThere) else (onE (imod s_265.2.2.1 k) TF.rt)))))))
theorem s_inverse (a : Int) (k : Int) : Sm Enc.enc (f_inverse [Enc.enc a, Enc.enc k]) (p_inverse a k) := by
  unfold f_inverse b_inverse w_inverse_0 q_inverse_0
  exact fn_sim rfl (by decide) (k_seq (k_exprE Sub.nil (fun η hl h => (u_call (a_consP (e_var (x := k) h 1 rfl) (a_nil (s_check_modulus k))))) fun u_266 => (k_seq (k_parE (r := (Res.bind (imod a k) fun v_255 => (Res.ok ((k, v_255) : (Int × Int))))) (by decide) (by decide) Sub.nil (fun η hl h => (bP (e_var (x := k) h 1 rfl) (bE (u_op2 (bP (e_var (x := a) h 0 rfl) (bP (e_var (x := k) h 1 rfl) (l_mod (x := a) (y := k))))) fun v_255 => rfl))) fun p_254 => (k_seq (k_asgTE (r := (Res.ok (((0 : Int), (1 : Int)) : (Int × Int)))) Sub.nil (fun η hl h => (u_tup (a_consP (e_lit (x := (0 : Int)) rfl) (a_consP (e_lit (x := (1 : Int)) rfl) (a_nil (l_tup (p := (((0 : Int), (1 : Int)) : (Int × Int))) rfl rfl)))))) (fun p_256 => (t_tup (ts_cons (t_name 4 (by decide)) (ts_cons (t_name 5 (by decide)) ts_nil)))) fun p_256 => (k_seq (k_while (fun (s_257 : (Int × Int × Int × Int)) => [(1, Enc.enc k), (2, Enc.enc s_257.1), (3, Enc.enc s_257.2.1), (4, Enc.enc s_257.2.2.1), (5, Enc.enc s_257.2.2.2)]) (tq := (fun (s_257 : (Int × Int × Int × Int)) => (Res.ok (decide (s_257.2.1 > (0 : Int)))))) (s0 := ((p_254.1, p_254.2, p_256.1, p_256.2) : (Int × Int × Int × Int))) (fun s_257 => Sub.nil) (Sub.of ⟨rfl, rfl, rfl, rfl, rfl, trivial⟩) (fun s_257 η hl h => (u_qB (u_op2 (bP (e_var (x := s_257.2.1) h 3 rfl) (bP (e_lit (x := (0 : Int)) rfl) (l_gt (x := s_257.2.1) (y := (0 : Int)))))))) (fun s_257 => (k_seq (k_asgE (r := (idiv s_257.1 s_257.2.1)) (by decide) Sub.nil (fun η hl h => (u_op2 (bP (e_var (x := s_257.1) h 2 rfl) (bP (e_var (x := s_257.2.1) h 3 rfl) (l_div (x := s_257.1) (y := s_257.2.1)))))) fun part_258 => (k_seq (k_parE (r := (Res.bind (Res.bind (imul part_258 s_257.2.1) fun v_259 => (Res.ok (s_257.1 - v_259))) fun v_261 => (Res.ok ((s_257.2.1, v_261) : (Int × Int))))) (by decide) (by decide) Sub.nil (fun η hl h => (bP (e_var (x := s_257.2.1) h 3 rfl) (bE (u_op2 (bP (e_var (x := s_257.1) h 2 rfl) (bE (u_op2 (bP (e_var (x := part_258) h 6 rfl) (bP (e_var (x := s_257.2.1) h 3 rfl) (l_mul (x := part_258) (y := s_257.2.1))))) fun v_259 => (l_sub (x := s_257.1) (y := v_259))))) fun v_261 => rfl))) fun p_260 => (k_parE (r := (Res.bind (Res.bind (imul part_258 s_257.2.2.2) fun v_262 => (Res.ok (s_257.2.2.1 - v_262))) fun v_264 => (Res.ok ((s_257.2.2.2, v_264) : (Int × Int))))) (by decide) (by decide) Sub.nil (fun η hl h => (bP (e_var (x := s_257.2.2.2) h 5 rfl) (bE (u_op2 (bP (e_var (x := s_257.2.2.1) h 4 rfl) (bE (u_op2 (bP (e_var (x := part_258) h 6 rfl) (bP (e_var (x := s_257.2.2.2) h 5 rfl) (l_mul (x := part_258) (y := s_257.2.2.2))))) fun v_262 => (l_sub (x := s_257.2.2.1) (y := v_262))))) fun v_264 => rfl))) fun p_263 => (k_end (Sub.of ⟨rfl, rfl, rfl, rfl, rfl, trivial⟩)))))))) fun s_265 => (k_seq (k_ifP (fun η hl h => (u_qB (u_op2 (bP (e_var (x := s_265.1) h 2 rfl) (bP (e_lit (x := (1 : Int)) rfl) (l_ne (x := s_265.1) (y := (1 : Int)))))))) (k_raise .notThere Sub.nil) (k_next (k_retE Sub.nil fun η hl h => (u_op2 (bP (e_var (x := s_265.2.2.1) h 4 rfl) (bP (e_var (x := k) h 1 rfl) (l_mod (x := s_265.2.2.1) (y := k)))))))))))))))))
noncomputable def p_transform_back (values : (List Int)) (prime : Int) : Res (List Int) := (tRun (onE (Res.ok (ilen values)) fun size_253 => (onE (Res.bind (p_find_root prime size_253) fun v_267 => (p_inverse v_267 prime)) fun root_268 => (onE (p_inverse size_253 prime) fun scale_269 => (onE (Res.ok ([] : List Int)) fun result_270 => (onE (irange size_253) fun xs_287 => TF.bind (tFor xs_287 (result_270 : ((List Int))) (fun (x_272 : Int) (s_271 : ((List Int))) => (onE (Res.bind (imul (2 : Int) x_272) fun v_273 => (p_power root_268 v_273 prime)) fun step_274 => (onE (p_power root_268 x_272 prime) fun weight_275 => (TF.bind (tFor values ((weight_275, (0 : Int)) : (Int × Int)) (fun (x_277 : Int) (s_276 : (Int × Int)) => (onE (Res.bind (Res.bind (imul x_277 s_276.1) fun v_278 => (Res.ok (s_276.2 + v_278))) fun v_279 => (imod v_279 prime)) fun total_280 => (onE (Res.bind (imul s_276.1 step_274) fun v_281 => (imod v_281 prime)) fun weight_282 => (.nx (weight_282, total_280)))))) fun s_283 => (onE (Res.bind (Res.bind (imul s_283.2 scale_269) fun v_284 => (imod v_284 prime)) fun x => lapp s_271 x) fun result_285 => (.nx result_285))))))) fun s_286 => (.rt s_286)))))))
theorem s_transform_back (values : (List Int)) (prime : Int) : Sm Enc.enc (f_transform_back [Enc.enc values, Enc.enc prime]) (p_transform_back values prime) := by
  unfold f_transform_back b_transform_back w_transform_back_1 w_transform_back_0
  exact fn_sim rfl (by decide) (k_seq (k_asgE (r := (Res.ok (ilen values))) (by decide) Sub.nil (fun η hl h => (u_call (a_consP (e_var (x := values) h 0 rfl) (a_nil (l_len (xs := values)))))) fun size_253 => (k_seq (k_asgE (r := (Res.bind (p_find_root prime size_253) fun v_267 => (p_inverse v_267 prime))) (by decide) Sub.nil (fun η hl h => (u_call (a_consE (u_call (a_consP (e_var (x := prime) h 1 rfl) (a_consP (e_var (x := size_253) h 2 rfl) (a_nil (s_find_root prime size_253))))) fun v_267 => (a_consP (e_var (x := prime) h 1 rfl) (a_nil (s_inverse v_267 prime)))))) fun root_268 => (k_seq (k_asgE (r := (p_inverse size_253 prime)) (by decide) Sub.nil (fun η hl h => (u_call (a_consP (e_var (x := size_253) h 2 rfl) (a_consP (e_var (x := prime) h 1 rfl) (a_nil (s_inverse size_253 prime)))))) fun scale_269 => (k_seq (k_asgE (r := (Res.ok ([] : List Int))) (by decide) Sub.nil (fun η hl h => (u_lst (a_nil (l_lst (xs := ([] : List Int)) rfl rfl)))) fun result_270 => (k_seq (k_for (ri := (irange size_253)) (fun (s_271 : ((List Int))) => [(0, Enc.enc values), (1, Enc.enc prime), (3, Enc.enc root_268), (4, Enc.enc scale_269), (5, Enc.enc s_271)]) (s0 := (result_270 : ((List Int)))) Sub.nil (fun η hl h => (i_range1P (e_var (x := size_253) h 2 rfl))) (Sub.of ⟨rfl, rfl, rfl, rfl, rfl, trivial⟩) (fun x_272 s_271 => (t_name 6 (by decide))) (fun x_272 s_271 => (k_seq (k_asgE (r := (Res.bind (imul (2 : Int) x_272) fun v_273 => (p_power root_268 v_273 prime))) (by decide) Sub.nil (fun η hl h => (u_call (a_consP (e_var (x := root_268) h 3 rfl) (a_consE (u_op2 (bP (e_lit (x := (2 : Int)) rfl) (bP (e_var (x := x_272) h 6 rfl) (l_mul (x := (2 : Int)) (y := x_272))))) fun v_273 => (a_consP (e_var (x := prime) h 1 rfl) (a_nil (s_power root_268 v_273 prime))))))) fun step_274 => (k_seq (k_asgE (r := (p_power root_268 x_272 prime)) (by decide) Sub.nil (fun η hl h => (u_call (a_consP (e_var (x := root_268) h 3 rfl) (a_consP (e_var (x := x_272) h 6 rfl) (a_consP (e_var (x := prime) h 1 rfl) (a_nil (s_power root_268 x_272 prime))))))) fun weight_275 => (k_seq (k_asgP (by decide) (fun η hl h => (e_lit (x := (0 : Int)) rfl)) (k_seq (k_forP (xs := values) (fun (s_276 : (Int × Int)) => [(0, Enc.enc values), (1, Enc.enc prime), (3, Enc.enc root_268), (4, Enc.enc scale_269), (5, Enc.enc s_271), (7, Enc.enc step_274), (8, Enc.enc s_276.1), (9, Enc.enc s_276.2)]) (s0 := ((weight_275, (0 : Int)) : (Int × Int))) (fun η hl h => (i_seqP (e_var (x := values) h 0 rfl))) (Sub.of ⟨rfl, rfl, rfl, rfl, rfl, rfl, rfl, rfl, trivial⟩) (fun x_277 s_276 => (t_name 10 (by decide))) (fun x_277 s_276 => (k_seq (k_asgE (r := (Res.bind (Res.bind (imul x_277 s_276.1) fun v_278 => (Res.ok (s_276.2 + v_278))) fun v_279 => (imod v_279 prime))) (by decide) Sub.nil (fun η hl h => (u_op2 (bE (u_op2 (bP (e_var (x := s_276.2) h 9 rfl) (bE (u_op2 (bP (e_var (x := x_277) h 10 rfl) (bP (e_var (x := s_276.1) h 8 rfl) (l_mul (x := x_277) (y := s_276.1))))) fun v_278 => (l_add (x := s_276.2) (y := v_278))))) fun v_279 => (bP (e_var (x := prime) h 1 rfl) (l_mod (x := v_279) (y := prime)))))) fun total_280 => (k_asgE (r := (Res.bind (imul s_276.1 step_274) fun v_281 => (imod v_281 prime))) (by decide) Sub.nil (fun η hl h => (u_op2 (bE (u_op2 (bP (e_var (x := s_276.1) h 8 rfl) (bP (e_var (x := step_274) h 7 rfl) (l_mul (x := s_276.1) (y := step_274))))) fun v_281 => (bP (e_var (x := prime) h 1 rfl) (l_mod (x := v_281) (y := prime)))))) fun weight_282 => (k_end (Sub.of ⟨rfl, rfl, rfl, rfl, rfl, rfl, rfl, rfl, trivial⟩)))))) fun s_283 => (k_app (xs := s_271) (by decide) Sub.nil rfl (fun η hl h => (u_op2 (bE (u_op2 (bP (e_var (x := s_283.2) h 9 rfl) (bP (e_var (x := scale_269) h 4 rfl) (l_mul (x := s_283.2) (y := scale_269))))) fun v_284 => (bP (e_var (x := prime) h 1 rfl) (l_mod (x := v_284) (y := prime)))))) fun result_285 => (k_end (Sub.of ⟨rfl, rfl, rfl, rfl, rfl, trivial⟩)))))))))))) fun s_286 => (k_retP fun η hl h => (e_var (x := s_286) h 5 rfl))))))))))))
noncomputable def p__law_told (which : Int) (a : (List Int)) (prime : Int) : Res Str := (tRun (TF.bind (σ := Unit) (tTry (if (decide (which = (0 : Int))) then (onE (p_find_root prime (ilen a)) fun u_322 => (.nx ())) else (if (decide (which = (1 : Int))) then (onE (p_transform a prime) fun u_323 => (.nx ())) else (if (decide (which = (2 : Int))) then (onE (p_transform_back a prime) fun u_324 => (.nx ())) else (if (decide (which = (3 : Int))) then (onE (p_transform_primes (ilen a) prime (2 : Int)) fun u_325 => (.nx ())) else (onE (p_transform_primes (ilen a) (1 : Int) prime) fun u_326 => (.nx ())))))) .purse fun er_316 => (onE (rand (isEr er_316 .notThere) (Res.bind (isEr er_316 .range) fun c => .ok (!c))) fun c => if c then (.rt ("there" : Str)) else (onE (rand (isEr er_316 .range) (Res.bind (isEr er_316 .notThere) fun c => .ok (!c))) fun c => if c then (.rt ("range" : Str)) else (.rt ("other" : Str))))) fun s_327 => (.rt ("" : Str))))
theorem s__law_told (which : Int) (a : (List Int)) (prime : Int) : Sm Enc.enc (f__law_told [Enc.enc which, Enc.enc a, Enc.enc prime]) (p__law_told which a prime) := by
  unfold f__law_told b__law_told
  exact fn_sim rfl (by decide) (k_seq (k_join (Lm := fun (s_327 : Unit) => []) (tryA_sim (Lx := []) (by decide) Sub.nil rfl (fun _ => rfl) (fun _ => rfl) (k_ifP (fun η hl h => (u_qB (u_op2 (bP (e_var (x := which) h 0 rfl) (bP (e_lit (x := (0 : Int)) rfl) (l_eq (x := which) (y := (0 : Int)))))))) (k_exprE Sub.nil (fun η hl h => (u_call (a_consP (e_var (x := prime) h 2 rfl) (a_consP (u_call (a_consP (e_var (x := a) h 1 rfl) (a_nil (l_len (xs := a))))) (a_nil (s_find_root prime (ilen a))))))) fun u_322 => (k_end Sub.nil)) (k_ifP (fun η hl h => (u_qB (u_op2 (bP (e_var (x := which) h 0 rfl) (bP (e_lit (x := (1 : Int)) rfl) (l_eq (x := which) (y := (1 : Int)))))))) (k_exprE Sub.nil (fun η hl h => (u_call (a_consP (e_var (x := a) h 1 rfl) (a_consP (e_var (x := prime) h 2 rfl) (a_nil (s_transform a prime)))))) fun u_323 => (k_end Sub.nil)) (k_ifP (fun η hl h => (u_qB (u_op2 (bP (e_var (x := which) h 0 rfl) (bP (e_lit (x := (2 : Int)) rfl) (l_eq (x := which) (y := (2 : Int)))))))) (k_exprE Sub.nil (fun η hl h => (u_call (a_consP (e_var (x := a) h 1 rfl) (a_consP (e_var (x := prime) h 2 rfl) (a_nil (s_transform_back a prime)))))) fun u_324 => (k_end Sub.nil)) (k_ifP (fun η hl h => (u_qB (u_op2 (bP (e_var (x := which) h 0 rfl) (bP (e_lit (x := (3 : Int)) rfl) (l_eq (x := which) (y := (3 : Int)))))))) (k_exprE Sub.nil (fun η hl h => (u_call (a_consP (u_call (a_consP (e_var (x := a) h 1 rfl) (a_nil (l_len (xs := a))))) (a_consP (e_var (x := prime) h 2 rfl) (a_consP (e_lit (x := (2 : Int)) rfl) (a_nil (s_transform_primes (ilen a) prime (2 : Int)))))))) fun u_325 => (k_end Sub.nil)) (k_exprE Sub.nil (fun η hl h => (u_call (a_consP (u_call (a_consP (e_var (x := a) h 1 rfl) (a_nil (l_len (xs := a))))) (a_consP (e_lit (x := (1 : Int)) rfl) (a_consP (e_var (x := prime) h 2 rfl) (a_nil (s_transform_primes (ilen a) (1 : Int) prime))))))) fun u_326 => (k_end Sub.nil)))))) (fun er_316 => (k_seq (k_ifE Sub.nil (fun η hl h => (u_qAnd (u_qTruB l_isEr) (u_qNot (u_qTruB l_isEr)))) (k_retP fun η hl h => (e_lit (x := ("there" : Str)) rfl)) (k_next (k_seq (k_ifE Sub.nil (fun η hl h => (u_qAnd (u_qTruB l_isEr) (u_qNot (u_qTruB l_isEr)))) (k_retP fun η hl h => (e_lit (x := ("range" : Str)) rfl)) (k_next (k_retP fun η hl h => (e_lit (x := ("other" : Str)) rfl)))))))))) fun s_327 => (k_retP fun η hl h => (e_lit (x := ("" : Str)) rfl))))
noncomputable def p__law_bounds (a : (List Int)) (prime : Int) : Res Bool := (tRun (onE (Res.ok (ilen a)) fun size_300 => (onE (irange (3 : Int)) fun xs_346 => TF.bind (tFor xs_346 (() : Unit) (fun (x_302 : Int) (s_301 : Unit) => (onE (Res.bind (Res.bind (Res.bind (imul (2 : Int) size_300) fun v_306 => (Res.bind (Res.bind (Res.bind (Res.bind (Res.bind (imul (2 : Int) size_300) fun v_303 => (Res.ok (prime + v_303))) fun v_304 => (p__law_is_prime v_304)) fun c => .ok (!c)) fun v_305 => (Res.ok (b2i v_305))) fun v_307 => (imul v_306 v_307))) fun v_308 => (Res.ok (prime + v_308))) fun v_309 => (Res.bind (imul (65521 : Int) (65521 : Int)) fun v_310 => (Res.ok ([v_309, (0 : Int), (1 : Int), (2 : Int), (-prime), (15 : Int), (49 : Int), v_310] : List Int)))) fun xs_336 => TF.bind (tFor xs_336 (() : Unit) (fun (x_312 : Int) (s_311 : Unit) => (onE (rand (Res.ok (decide (x_312 > (2 : Int)))) (rand (Res.bind (Res.bind (imul (2 : Int) size_300) fun v_313 => (imod x_312 v_313)) fun v_314 => (Res.ok (decide (v_314 = (1 : Int))))) (p__law_is_prime x_312))) fun right_315 => (onE (rand (Res.ok (!right_315)) (Res.bind (p__law_told x_302 a x_312) fun v_328 => (dB (opNe (Enc.enc v_328) (Enc.enc ("there" : Str)))))) fun c => if c then (.rt false) else (.nx ()))))) fun s_329 => (onE (Res.bind (lrep ([(1 : Int)] : List Int) (12 : Int)) fun v_330 => (Res.ok ([([(1 : Int), (2 : Int), (3 : Int)] : List Int), v_330] : List (List Int)))) fun xs_335 => TF.bind (tFor xs_335 (() : Unit) (fun (x_332 : (List Int)) (s_331 : Unit) => (onE (Res.bind (p__law_told x_302 x_332 prime) fun v_333 => (dB (opNe (Enc.enc v_333) (Enc.enc ("range" : Str))))) fun c => if c then (.rt false) else (.nx ())))) fun s_334 => (.nx ()))))) fun s_337 => (TF.bind (tFor ([(0 : Int), (9 : Int), (-(1 : Int))] : List Int) (() : Unit) (fun (x_339 : Int) (s_338 : Unit) => (onE (Res.bind (p__law_told (3 : Int) a x_339) fun v_340 => (dB (opNe (Enc.enc v_340) (Enc.enc ("range" : Str))))) fun c => if c then (.rt false) else (.nx ())))) fun s_341 => (onE (rand (Res.bind (Res.bind (Res.bind (ishl (1 : Int) (30 : Int)) fun v_342 => (Res.ok (v_342 + (1 : Int)))) fun v_343 => (p__law_told (4 : Int) a v_343)) fun v_344 => (dB (opEq (Enc.enc v_344) (Enc.enc ("range" : Str))))) (Res.bind (p__law_told (3 : Int) ([(1 : Int), (2 : Int), (3 : Int)] : List Int) (1 : Int)) fun v_345 => (dB (opEq (Enc.enc v_345) (Enc.enc ("range" : Str)))))) TF.rt)))))
theorem s__law_bounds (a : (List Int)) (prime : Int) : Sm Enc.enc (f__law_bounds [Enc.enc a, Enc.enc prime]) (p__law_bounds a prime) := by
  unfold f__law_bounds b__law_bounds w__law_bounds_3 w__law_bounds_2 w__law_bounds_1 w__law_bounds_0
  exact fn_sim rfl (by decide) (k_seq (k_asgE (r := (Res.ok (ilen a))) (by decide) Sub.nil (fun η hl h => (u_call (a_consP (e_var (x := a) h 0 rfl) (a_nil (l_len (xs := a)))))) fun size_300 => (k_seq (k_for (ri := (irange (3 : Int))) (fun (s_301 : Unit) => [(0, Enc.enc a), (1, Enc.enc prime), (2, Enc.enc size_300)]) (s0 := (() : Unit)) Sub.nil (fun η hl h => (i_range1P (e_lit (x := (3 : Int)) rfl))) (Sub.of ⟨rfl, rfl, rfl, trivial⟩) (fun x_302 s_301 => (t_name 3 (by decide))) (fun x_302 s_301 => (k_seq (k_for (ri := (Res.bind (Res.bind (Res.bind (imul (2 : Int) size_300) fun v_306 => (Res.bind (Res.bind (Res.bind (Res.bind (Res.bind (imul (2 : Int) size_300) fun v_303 => (Res.ok (prime + v_303))) fun v_304 => (p__law_is_prime v_304)) fun c => .ok (!c)) fun v_305 => (Res.ok (b2i v_305))) fun v_307 => (imul v_306 v_307))) fun v_308 => (Res.ok (prime + v_308))) fun v_309 => (Res.bind (imul (65521 : Int) (65521 : Int)) fun v_310 => (Res.ok ([v_309, (0 : Int), (1 : Int), (2 : Int), (-prime), (15 : Int), (49 : Int), v_310] : List Int))))) (fun (s_311 : Unit) => [(0, Enc.enc a), (1, Enc.enc prime), (2, Enc.enc size_300), (3, Enc.enc x_302)]) (s0 := (() : Unit)) Sub.nil (fun η hl h => (i_seqE (u_lst (a_consE (u_op2 (bP (e_var (x := prime) h 1 rfl) (bE (u_op2 (bE (u_op2 (bP (e_lit (x := (2 : Int)) rfl) (bP (e_var (x := size_300) h 2 rfl) (l_mul (x := (2 : Int)) (y := size_300))))) fun v_306 => (bE (u_call (a_consE (u_not (u_call (a_consE (u_op2 (bP (e_var (x := prime) h 1 rfl) (bE (u_op2 (bP (e_lit (x := (2 : Int)) rfl) (bP (e_var (x := size_300) h 2 rfl) (l_mul (x := (2 : Int)) (y := size_300))))) fun v_303 => (l_add (x := prime) (y := v_303))))) fun v_304 => (a_nil (s__law_is_prime v_304))))) fun v_305 => (a_nil (l_intB (u := v_305))))) fun v_307 => (l_mul (x := v_306) (y := v_307))))) fun v_308 => (l_add (x := prime) (y := v_308))))) fun v_309 => (a_consP (e_lit (x := (0 : Int)) rfl) (a_consP (e_lit (x := (1 : Int)) rfl) (a_consP (e_lit (x := (2 : Int)) rfl) (a_consP (u_op1 (bP (e_var (x := prime) h 1 rfl) (l_neg (x := prime)))) (a_consP (e_lit (x := (15 : Int)) rfl) (a_consP (e_lit (x := (49 : Int)) rfl) (a_consE (u_op2 (bP (e_lit (x := (65521 : Int)) rfl) (bP (e_lit (x := (65521 : Int)) rfl) (l_mul (x := (65521 : Int)) (y := (65521 : Int)))))) fun v_310 => (a_nil (l_lst (xs := ([v_309, (0 : Int), (1 : Int), (2 : Int), (-prime), (15 : Int), (49 : Int), v_310] : List Int)) rfl rfl))))))))))))) (Sub.of ⟨rfl, rfl, rfl, rfl, trivial⟩) (fun x_312 s_311 => (t_name 4 (by decide))) (fun x_312 s_311 => (k_seq (k_asgE (r := (rand (Res.ok (decide (x_312 > (2 : Int)))) (rand (Res.bind (Res.bind (imul (2 : Int) size_300) fun v_313 => (imod x_312 v_313)) fun v_314 => (Res.ok (decide (v_314 = (1 : Int))))) (p__law_is_prime x_312)))) (by decide) Sub.nil (fun η hl h => (u_and (u_op2 (bP (e_var (x := x_312) h 4 rfl) (bP (e_lit (x := (2 : Int)) rfl) (l_gt (x := x_312) (y := (2 : Int)))))) (u_and (u_op2 (bE (u_op2 (bP (u_call (a_consP (e_var (x := x_312) h 4 rfl) (a_nil (l_int (x := x_312))))) (bE (u_op2 (bP (e_lit (x := (2 : Int)) rfl) (bP (e_var (x := size_300) h 2 rfl) (l_mul (x := (2 : Int)) (y := size_300))))) fun v_313 => (l_mod (x := x_312) (y := v_313))))) fun v_314 => (bP (e_lit (x := (1 : Int)) rfl) (l_eq (x := v_314) (y := (1 : Int)))))) (u_call (a_consP (e_var (x := x_312) h 4 rfl) (a_nil (s__law_is_prime x_312))))))) fun right_315 => (k_ifE Sub.nil (fun η hl h => (u_qAnd (u_qNotP (u_qTruB (e_var (x := right_315) h 5 rfl))) (u_qB (u_op2 (bE (u_call (a_consP (e_var (x := x_302) h 3 rfl) (a_consP (e_var (x := a) h 0 rfl) (a_consP (e_var (x := x_312) h 4 rfl) (a_nil (s__law_told x_302 a x_312)))))) fun v_328 => (bP (e_lit (x := ("there" : Str)) rfl) l_neD)))))) (k_retP fun η hl h => (e_lit (x := false) rfl)) (k_next (k_end (Sub.of ⟨rfl, rfl, rfl, rfl, trivial⟩))))))) fun s_329 => (k_for (ri := (Res.bind (lrep ([(1 : Int)] : List Int) (12 : Int)) fun v_330 => (Res.ok ([([(1 : Int), (2 : Int), (3 : Int)] : List Int), v_330] : List (List Int))))) (fun (s_331 : Unit) => [(0, Enc.enc a), (1, Enc.enc prime), (2, Enc.enc size_300), (3, Enc.enc x_302)]) (s0 := (() : Unit)) Sub.nil (fun η hl h => (i_seqE (u_lst (a_consP (u_lst (a_consP (e_lit (x := (1 : Int)) rfl) (a_consP (e_lit (x := (2 : Int)) rfl) (a_consP (e_lit (x := (3 : Int)) rfl) (a_nil (l_lst (xs := ([(1 : Int), (2 : Int), (3 : Int)] : List Int)) rfl rfl)))))) (a_consE (u_op2 (bP (u_lst (a_consP (e_lit (x := (1 : Int)) rfl) (a_nil (l_lst (xs := ([(1 : Int)] : List Int)) rfl rfl)))) (bP (e_lit (x := (12 : Int)) rfl) (l_rep (xs := ([(1 : Int)] : List Int)) (k := (12 : Int)))))) fun v_330 => (a_nil (l_lst (xs := ([([(1 : Int), (2 : Int), (3 : Int)] : List Int), v_330] : List (List Int))) rfl rfl))))))) (Sub.of ⟨rfl, rfl, rfl, rfl, trivial⟩) (fun x_332 s_331 => (t_name 6 (by decide))) (fun x_332 s_331 => (k_ifE Sub.nil (fun η hl h => (u_qB (u_op2 (bE (u_call (a_consP (e_var (x := x_302) h 3 rfl) (a_consP (e_var (x := x_332) h 6 rfl) (a_consP (e_var (x := prime) h 1 rfl) (a_nil (s__law_told x_302 x_332 prime)))))) fun v_333 => (bP (e_lit (x := ("range" : Str)) rfl) l_neD))))) (k_retP fun η hl h => (e_lit (x := false) rfl)) (k_next (k_end (Sub.of ⟨rfl, rfl, rfl, rfl, trivial⟩))))) fun s_334 => (k_end (Sub.of ⟨rfl, rfl, rfl, trivial⟩)))))) fun s_337 => (k_seq (k_forP (xs := ([(0 : Int), (9 : Int), (-(1 : Int))] : List Int)) (fun (s_338 : Unit) => [(0, Enc.enc a)]) (s0 := (() : Unit)) (fun η hl h => (i_seqP (u_lst (a_consP (e_lit (x := (0 : Int)) rfl) (a_consP (e_lit (x := (9 : Int)) rfl) (a_consP (u_op1 (bP (e_lit (x := (1 : Int)) rfl) (l_neg (x := (1 : Int))))) (a_nil (l_lst (xs := ([(0 : Int), (9 : Int), (-(1 : Int))] : List Int)) rfl rfl)))))))) (Sub.of ⟨rfl, trivial⟩) (fun x_339 s_338 => (t_name 4 (by decide))) (fun x_339 s_338 => (k_ifE Sub.nil (fun η hl h => (u_qB (u_op2 (bE (u_call (a_consP (e_lit (x := (3 : Int)) rfl) (a_consP (e_var (x := a) h 0 rfl) (a_consP (e_var (x := x_339) h 4 rfl) (a_nil (s__law_told (3 : Int) a x_339)))))) fun v_340 => (bP (e_lit (x := ("range" : Str)) rfl) l_neD))))) (k_retP fun η hl h => (e_lit (x := false) rfl)) (k_next (k_end (Sub.of ⟨rfl, trivial⟩))))) fun s_341 => (k_retE Sub.nil fun η hl h => (u_and (u_op2 (bE (u_call (a_consP (e_lit (x := (4 : Int)) rfl) (a_consP (e_var (x := a) h 0 rfl) (a_consE (u_op2 (bE (u_op2 (bP (e_lit (x := (1 : Int)) rfl) (bP (e_lit (x := (30 : Int)) rfl) (l_shl (x := (1 : Int)) (y := (30 : Int)))))) fun v_342 => (bP (e_lit (x := (1 : Int)) rfl) (l_add (x := v_342) (y := (1 : Int)))))) fun v_343 => (a_nil (s__law_told (4 : Int) a v_343)))))) fun v_344 => (bP (e_lit (x := ("range" : Str)) rfl) l_eqD))) (u_op2 (bE (u_call (a_consP (e_lit (x := (3 : Int)) rfl) (a_consP (u_lst (a_consP (e_lit (x := (1 : Int)) rfl) (a_consP (e_lit (x := (2 : Int)) rfl) (a_consP (e_lit (x := (3 : Int)) rfl) (a_nil (l_lst (xs := ([(1 : Int), (2 : Int), (3 : Int)] : List Int)) rfl rfl)))))) (a_consP (e_lit (x := (1 : Int)) rfl) (a_nil (s__law_told (3 : Int) ([(1 : Int), (2 : Int), (3 : Int)] : List Int) (1 : Int))))))) fun v_345 => (bP (e_lit (x := ("range" : Str)) rfl) l_eqD)))))))))))
noncomputable def p_law (script : (List Int)) : Res Bool := (tRun (onE (Res.bind (p__law_cell script (0 : Int)) fun v_8 => (p__law_size v_8)) fun size_9 => (onE (Res.bind (Res.bind (Res.bind (Res.bind (p__law_cell script (0 : Int)) fun v_10 => (Res.ok (iabs v_10))) fun v_11 => (idiv v_11 (5 : Int))) fun v_18 => (Res.bind (Res.bind (Res.bind (Res.bind (Res.bind (Res.bind (Res.bind (p__law_cell script (1 : Int)) fun v_12 => (Res.ok (iabs v_12))) fun v_13 => (idiv v_13 (9000 : Int))) fun v_14 => (imod v_14 (4 : Int))) fun v_15 => (Res.ok (decide (v_15 = (1 : Int))))) fun v_16 => (Res.ok (b2i v_16))) fun v_17 => (ix ([(3 : Int), (8 : Int)] : List Int) v_17)) fun v_19 => (imod v_18 v_19))) fun v_20 => (Res.ok ((1 : Int) + v_20))) fun count_21 => (onE (Res.bind (Res.bind (Res.bind (Res.bind (Res.bind (p__law_cell script (1 : Int)) fun v_22 => (Res.ok (iabs v_22))) fun v_23 => (idiv v_23 (3 : Int))) fun v_24 => (imod v_24 (3000 : Int))) fun v_28 => (Res.bind (Res.bind (Res.bind (Res.bind (p__law_cell script (1 : Int)) fun v_25 => (Res.ok (iabs v_25))) fun v_26 => (idiv v_26 (3 : Int))) fun v_27 => (imod v_27 (9000 : Int))) fun v_29 => (Res.ok ([v_28, v_29, (-(5 : Int))] : List Int)))) fun v_32 => (Res.bind (Res.bind (Res.bind (p__law_cell script (1 : Int)) fun v_30 => (Res.ok (iabs v_30))) fun v_31 => (imod v_31 (3 : Int))) fun v_33 => (ix v_32 v_33))) fun least_34 => (TF.bind (σ := (Int × Int)) (onE (rand (Res.bind (Res.bind (Res.bind (Res.bind (p__law_cell script (1 : Int)) fun v_35 => (Res.ok (iabs v_35))) fun v_36 => (idiv v_36 (36000 : Int))) fun v_37 => (imod v_37 (32 : Int))) fun v_38 => (Res.ok (decide (v_38 = (5 : Int))))) (Res.ok (decide (size_9 ≤ (16 : Int))))) fun c => if c then (onE (Res.bind (Res.bind (ishl (1 : Int) (30 : Int)) fun v_51 => (Res.bind (Res.bind (ishl (1 : Int) (20 : Int)) fun v_50 => (Res.ok (v_50 + least_34))) fun v_52 => (Res.ok ([v_51, v_52] : List Int)))) fun v_56 => (Res.bind (Res.bind (Res.bind (Res.bind (p__law_cell script (1 : Int)) fun v_53 => (Res.ok (iabs v_53))) fun v_54 => (idiv v_54 (1152000 : Int))) fun v_55 => (imod v_55 (2 : Int))) fun v_57 => (ix v_56 v_57))) fun least_58 => (onE (Res.bind (imod count_21 (2 : Int)) fun v_59 => (Res.ok ((1 : Int) + v_59))) fun count_60 => (.nx (count_60, least_58)))) else (.nx (count_21, least_34))) fun s_61 => (onE (p_transform_primes size_9 s_61.1 s_61.2) fun primes_83 => (onE (Res.bind (Res.bind (p__law_primes size_9 s_61.1 s_61.2) fun v_105 => (p__law_is_list primes_83 v_105)) fun c => .ok (!c)) fun c => if c then (.rt false) else (onE (ix primes_83 (-(1 : Int))) fun prime_106 => (onE (p_find_root prime_106 size_9) fun root_142 => (onE (ror (Res.bind (p__law_integer root_142) fun c => .ok (!c)) (ror (Res.ok (!((decide ((1 : Int) ≤ root_142)) && (decide (root_142 < prime_106))))) (Res.bind (p__law_power root_142 size_9 prime_106) fun v_150 => (Res.ok (!decide (v_150 = (prime_106 - (1 : Int)))))))) fun c => if c then (.rt false) else (onE (irange (size_9 - (1 : Int))) fun xs_347 => TF.bind (tFor xs_347 (root_142 : (Int)) (fun (x_152 : Int) (s_151 : (Int)) => (onE (Res.bind (Res.bind (Res.bind (imul s_151 root_142) fun v_153 => (imul v_153 root_142)) fun v_154 => (Res.ok v_154)) fun v_155 => (imod v_155 prime_106)) fun other_156 => (if (decide (other_156 < root_142)) then (.rt false) else (.nx other_156))))) fun s_157 => (onE (Res.bind (p__law_cell script (2 : Int)) fun v_213 => (Res.bind (Res.bind (Res.bind (ishl (1 : Int) (50 : Int)) fun v_158 => (Res.ok ([prime_106, v_158] : List Int))) fun v_161 => (Res.bind (Res.bind (Res.bind (p__law_cell script (2 : Int)) fun v_159 => (Res.ok (iabs v_159))) fun v_160 => (imod v_160 (2 : Int))) fun v_162 => (ix v_161 v_162))) fun v_214 => (p__law_poly v_213 size_9 v_214))) fun a_215 => (onE (Res.ok a_215) fun given_216 => (onE (p_transform given_216 prime_106) fun values_234 => (onE (ror (Res.bind (Res.bind (p__law_values a_215 root_142 prime_106) fun v_251 => (p__law_is_list values_234 v_251)) fun c => .ok (!c)) (Res.ok (!decide (given_216 = a_215)))) fun c => if c then (.rt false) else (onE (Res.ok values_234) fun passed_252 => (onE (ror (Res.bind (Res.bind (p_transform_back passed_252 prime_106) fun v_289 => (Res.bind (cmapE (fun (x_288 : Int) => (imod x_288 prime_106)) a_215) fun v_290 => (p__law_is_list v_289 v_290))) fun c => .ok (!c)) (Res.ok (!decide (passed_252 = values_234)))) fun c => if c then (.rt false) else (onE (Res.bind (Res.bind (p__law_cell script (3 : Int)) fun v_291 => (p__law_poly v_291 size_9 prime_106)) fun xs_293 => (cmapE (fun (x_292 : Int) => (imod x_292 prime_106)) xs_293)) fun row_294 => (onE (p_transform_back row_294 prime_106) fun back_295 => (onE (ror (Res.bind (Res.bind (cfm (fun (x_296 : Int) => (!((decide ((0 : Int) ≤ x_296)) && (decide (x_296 < prime_106))))) (fun (x_296 : Int) => x_296) back_295) fun v_297 => (Res.ok (ilen v_297))) fun v_298 => (Res.ok (decide (v_298 > (0 : Int))))) (Res.bind (Res.bind (p_transform back_295 prime_106) fun v_299 => (p__law_is_list v_299 row_294)) fun c => .ok (!c))) fun c => if c then (.rt false) else (onE (p__law_bounds a_215 prime_106) TF.rt)))))))))))))))))))))
theorem s_law (script : (List Int)) : Sm Enc.enc (f_law [Enc.enc script]) (p_law script) := by
  unfold f_law b_law t_law_3 t_law_2 t_law_1 t_law_0 cq_law_0 c_law_1 c_law_0 w_law_0
  exact fn_sim rfl (by decide) (k_seq (k_asgE (r := (Res.bind (p__law_cell script (0 : Int)) fun v_8 => (p__law_size v_8))) (by decide) Sub.nil (fun η hl h => (u_call (a_consE (u_call (a_consP (e_var (x := script) h 0 rfl) (a_consP (e_lit (x := (0 : Int)) rfl) (a_nil (s__law_cell script (0 : Int)))))) fun v_8 => (a_nil (s__law_size v_8))))) fun size_9 => (k_seq (k_asgE (r := (Res.bind (Res.bind (Res.bind (Res.bind (p__law_cell script (0 : Int)) fun v_10 => (Res.ok (iabs v_10))) fun v_11 => (idiv v_11 (5 : Int))) fun v_18 => (Res.bind (Res.bind (Res.bind (Res.bind (Res.bind (Res.bind (Res.bind (p__law_cell script (1 : Int)) fun v_12 => (Res.ok (iabs v_12))) fun v_13 => (idiv v_13 (9000 : Int))) fun v_14 => (imod v_14 (4 : Int))) fun v_15 => (Res.ok (decide (v_15 = (1 : Int))))) fun v_16 => (Res.ok (b2i v_16))) fun v_17 => (ix ([(3 : Int), (8 : Int)] : List Int) v_17)) fun v_19 => (imod v_18 v_19))) fun v_20 => (Res.ok ((1 : Int) + v_20)))) (by decide) Sub.nil (fun η hl h => (u_op2 (bP (e_lit (x := (1 : Int)) rfl) (bE (u_op2 (bE (u_op2 (bE (u_call (a_consE (u_call (a_consP (e_var (x := script) h 0 rfl) (a_consP (e_lit (x := (0 : Int)) rfl) (a_nil (s__law_cell script (0 : Int)))))) fun v_10 => (a_nil (l_abs (x := v_10))))) fun v_11 => (bP (e_lit (x := (5 : Int)) rfl) (l_div (x := v_11) (y := (5 : Int)))))) fun v_18 => (bE (u_op2 (bP (u_lst (a_consP (e_lit (x := (3 : Int)) rfl) (a_consP (e_lit (x := (8 : Int)) rfl) (a_nil (l_lst (xs := ([(3 : Int), (8 : Int)] : List Int)) rfl rfl))))) (bE (u_call (a_consE (u_op2 (bE (u_op2 (bE (u_op2 (bE (u_call (a_consE (u_call (a_consP (e_var (x := script) h 0 rfl) (a_consP (e_lit (x := (1 : Int)) rfl) (a_nil (s__law_cell script (1 : Int)))))) fun v_12 => (a_nil (l_abs (x := v_12))))) fun v_13 => (bP (e_lit (x := (9000 : Int)) rfl) (l_div (x := v_13) (y := (9000 : Int)))))) fun v_14 => (bP (e_lit (x := (4 : Int)) rfl) (l_mod (x := v_14) (y := (4 : Int)))))) fun v_15 => (bP (e_lit (x := (1 : Int)) rfl) (l_eq (x := v_15) (y := (1 : Int)))))) fun v_16 => (a_nil (l_intB (u := v_16))))) fun v_17 => (l_ix (xs := ([(3 : Int), (8 : Int)] : List Int)) (x := v_17))))) fun v_19 => (l_mod (x := v_18) (y := v_19))))) fun v_20 => (l_add (x := (1 : Int)) (y := v_20)))))) fun count_21 => (k_seq (k_asgE (r := (Res.bind (Res.bind (Res.bind (Res.bind (Res.bind (p__law_cell script (1 : Int)) fun v_22 => (Res.ok (iabs v_22))) fun v_23 => (idiv v_23 (3 : Int))) fun v_24 => (imod v_24 (3000 : Int))) fun v_28 => (Res.bind (Res.bind (Res.bind (Res.bind (p__law_cell script (1 : Int)) fun v_25 => (Res.ok (iabs v_25))) fun v_26 => (idiv v_26 (3 : Int))) fun v_27 => (imod v_27 (9000 : Int))) fun v_29 => (Res.ok ([v_28, v_29, (-(5 : Int))] : List Int)))) fun v_32 => (Res.bind (Res.bind (Res.bind (p__law_cell script (1 : Int)) fun v_30 => (Res.ok (iabs v_30))) fun v_31 => (imod v_31 (3 : Int))) fun v_33 => (ix v_32 v_33)))) (by decide) Sub.nil (fun η hl h => (u_op2 (bE (u_lst (a_consE (u_op2 (bE (u_op2 (bE (u_call (a_consE (u_call (a_consP (e_var (x := script) h 0 rfl) (a_consP (e_lit (x := (1 : Int)) rfl) (a_nil (s__law_cell script (1 : Int)))))) fun v_22 => (a_nil (l_abs (x := v_22))))) fun v_23 => (bP (e_lit (x := (3 : Int)) rfl) (l_div (x := v_23) (y := (3 : Int)))))) fun v_24 => (bP (e_lit (x := (3000 : Int)) rfl) (l_mod (x := v_24) (y := (3000 : Int)))))) fun v_28 => (a_consE (u_op2 (bE (u_op2 (bE (u_call (a_consE (u_call (a_consP (e_var (x := script) h 0 rfl) (a_consP (e_lit (x := (1 : Int)) rfl) (a_nil (s__law_cell script (1 : Int)))))) fun v_25 => (a_nil (l_abs (x := v_25))))) fun v_26 => (bP (e_lit (x := (3 : Int)) rfl) (l_div (x := v_26) (y := (3 : Int)))))) fun v_27 => (bP (e_lit (x := (9000 : Int)) rfl) (l_mod (x := v_27) (y := (9000 : Int)))))) fun v_29 => (a_consP (u_op1 (bP (e_lit (x := (5 : Int)) rfl) (l_neg (x := (5 : Int))))) (a_nil (l_lst (xs := ([v_28, v_29, (-(5 : Int))] : List Int)) rfl rfl)))))) fun v_32 => (bE (u_op2 (bE (u_call (a_consE (u_call (a_consP (e_var (x := script) h 0 rfl) (a_consP (e_lit (x := (1 : Int)) rfl) (a_nil (s__law_cell script (1 : Int)))))) fun v_30 => (a_nil (l_abs (x := v_30))))) fun v_31 => (bP (e_lit (x := (3 : Int)) rfl) (l_mod (x := v_31) (y := (3 : Int)))))) fun v_33 => (l_ix (xs := v_32) (x := v_33)))))) fun least_34 => (k_seq (k_join (Lm := fun (s_61 : (Int × Int)) => [(0, Enc.enc script), (1, Enc.enc size_9), (2, Enc.enc s_61.1), (3, Enc.enc s_61.2)]) (k_ifE Sub.nil (fun η hl h => (u_qAnd (u_qB (u_op2 (bE (u_op2 (bE (u_op2 (bE (u_call (a_consE (u_call (a_consP (e_var (x := script) h 0 rfl) (a_consP (e_lit (x := (1 : Int)) rfl) (a_nil (s__law_cell script (1 : Int)))))) fun v_35 => (a_nil (l_abs (x := v_35))))) fun v_36 => (bP (e_lit (x := (36000 : Int)) rfl) (l_div (x := v_36) (y := (36000 : Int)))))) fun v_37 => (bP (e_lit (x := (32 : Int)) rfl) (l_mod (x := v_37) (y := (32 : Int)))))) fun v_38 => (bP (e_lit (x := (5 : Int)) rfl) (l_eq (x := v_38) (y := (5 : Int))))))) (u_qB (u_op2 (bP (e_var (x := size_9) h 1 rfl) (bP (e_lit (x := (16 : Int)) rfl) (l_le (x := size_9) (y := (16 : Int))))))))) (k_seq (k_asgE (r := (Res.bind (Res.bind (ishl (1 : Int) (30 : Int)) fun v_51 => (Res.bind (Res.bind (ishl (1 : Int) (20 : Int)) fun v_50 => (Res.ok (v_50 + least_34))) fun v_52 => (Res.ok ([v_51, v_52] : List Int)))) fun v_56 => (Res.bind (Res.bind (Res.bind (Res.bind (p__law_cell script (1 : Int)) fun v_53 => (Res.ok (iabs v_53))) fun v_54 => (idiv v_54 (1152000 : Int))) fun v_55 => (imod v_55 (2 : Int))) fun v_57 => (ix v_56 v_57)))) (by decide) Sub.nil (fun η hl h => (u_op2 (bE (u_lst (a_consE (u_op2 (bP (e_lit (x := (1 : Int)) rfl) (bP (e_lit (x := (30 : Int)) rfl) (l_shl (x := (1 : Int)) (y := (30 : Int)))))) fun v_51 => (a_consE (u_op2 (bE (u_op2 (bP (e_lit (x := (1 : Int)) rfl) (bP (e_lit (x := (20 : Int)) rfl) (l_shl (x := (1 : Int)) (y := (20 : Int)))))) fun v_50 => (bP (e_var (x := least_34) h 3 rfl) (l_add (x := v_50) (y := least_34))))) fun v_52 => (a_nil (l_lst (xs := ([v_51, v_52] : List Int)) rfl rfl))))) fun v_56 => (bE (u_op2 (bE (u_op2 (bE (u_call (a_consE (u_call (a_consP (e_var (x := script) h 0 rfl) (a_consP (e_lit (x := (1 : Int)) rfl) (a_nil (s__law_cell script (1 : Int)))))) fun v_53 => (a_nil (l_abs (x := v_53))))) fun v_54 => (bP (e_lit (x := (1152000 : Int)) rfl) (l_div (x := v_54) (y := (1152000 : Int)))))) fun v_55 => (bP (e_lit (x := (2 : Int)) rfl) (l_mod (x := v_55) (y := (2 : Int)))))) fun v_57 => (l_ix (xs := v_56) (x := v_57)))))) fun least_58 => (k_asgE (r := (Res.bind (imod count_21 (2 : Int)) fun v_59 => (Res.ok ((1 : Int) + v_59)))) (by decide) Sub.nil (fun η hl h => (u_op2 (bP (e_lit (x := (1 : Int)) rfl) (bE (u_op2 (bP (e_var (x := count_21) h 2 rfl) (bP (e_lit (x := (2 : Int)) rfl) (l_mod (x := count_21) (y := (2 : Int)))))) fun v_59 => (l_add (x := (1 : Int)) (y := v_59)))))) fun count_60 => (k_end (Sub.of ⟨rfl, rfl, rfl, rfl, trivial⟩))))) (k_next (k_end (Sub.of ⟨rfl, rfl, rfl, rfl, trivial⟩)))) fun s_61 => (k_seq (k_asgE (r := (p_transform_primes size_9 s_61.1 s_61.2)) (by decide) Sub.nil (fun η hl h => (u_call (a_consP (e_var (x := size_9) h 1 rfl) (a_consP (e_var (x := s_61.1) h 2 rfl) (a_consP (e_var (x := s_61.2) h 3 rfl) (a_nil (s_transform_primes size_9 s_61.1 s_61.2))))))) fun primes_83 => (k_seq (k_ifE Sub.nil (fun η hl h => (u_qNot (u_qTruB (u_call (a_consP (e_var (x := primes_83) h 4 rfl) (a_consE (u_call (a_consP (e_var (x := size_9) h 1 rfl) (a_consP (e_var (x := s_61.1) h 2 rfl) (a_consP (e_var (x := s_61.2) h 3 rfl) (a_nil (s__law_primes size_9 s_61.1 s_61.2)))))) fun v_105 => (a_nil (s__law_is_list primes_83 v_105)))))))) (k_retP fun η hl h => (e_lit (x := false) rfl)) (k_next (k_seq (k_asgE (r := (ix primes_83 (-(1 : Int)))) (by decide) Sub.nil (fun η hl h => (u_op2 (bP (e_var (x := primes_83) h 4 rfl) (bP (u_op1 (bP (e_lit (x := (1 : Int)) rfl) (l_neg (x := (1 : Int))))) (l_ix (xs := primes_83) (x := (-(1 : Int)))))))) fun prime_106 => (k_seq (k_asgE (r := (p_find_root prime_106 size_9)) (by decide) Sub.nil (fun η hl h => (u_call (a_consP (e_var (x := prime_106) h 5 rfl) (a_consP (e_var (x := size_9) h 1 rfl) (a_nil (s_find_root prime_106 size_9)))))) fun root_142 => (k_seq (k_ifE Sub.nil (fun η hl h => (u_qOr (u_qNot (u_qTruB (u_call (a_consP (e_var (x := root_142) h 6 rfl) (a_nil (s__law_integer root_142)))))) (u_qOr (u_qNotP (u_qB (u_chain' (bP (e_lit (x := (1 : Int)) rfl) (bP (e_var (x := root_142) h 6 rfl) (chain_inP (l_le (x := (1 : Int)) (y := root_142)) (bP (e_var (x := prime_106) h 5 rfl) (l_lt (x := root_142) (y := prime_106))))))))) (u_qB (u_op2 (bE (u_call (a_consP (e_var (x := root_142) h 6 rfl) (a_consP (e_var (x := size_9) h 1 rfl) (a_consP (e_var (x := prime_106) h 5 rfl) (a_nil (s__law_power root_142 size_9 prime_106)))))) fun v_150 => (bP (u_op2 (bP (e_var (x := prime_106) h 5 rfl) (bP (e_lit (x := (1 : Int)) rfl) (l_sub (x := prime_106) (y := (1 : Int)))))) (l_ne (x := v_150) (y := (prime_106 - (1 : Int))))))))))) (k_retP fun η hl h => (e_lit (x := false) rfl)) (k_next (k_seq (k_asgP (by decide) (fun η hl h => (e_var (x := root_142) h 6 rfl)) (k_seq (k_for (ri := (irange (size_9 - (1 : Int)))) (fun (s_151 : (Int)) => [(0, Enc.enc script), (1, Enc.enc size_9), (5, Enc.enc prime_106), (6, Enc.enc root_142), (7, Enc.enc s_151)]) (s0 := (root_142 : (Int))) Sub.nil (fun η hl h => (i_range1P (u_op2 (bP (e_var (x := size_9) h 1 rfl) (bP (e_lit (x := (1 : Int)) rfl) (l_sub (x := size_9) (y := (1 : Int)))))))) (Sub.of ⟨rfl, rfl, rfl, rfl, rfl, trivial⟩) (fun x_152 s_151 => (t_name 8 (by decide))) (fun x_152 s_151 => (k_seq (k_asgE (r := (Res.bind (Res.bind (Res.bind (imul s_151 root_142) fun v_153 => (imul v_153 root_142)) fun v_154 => (Res.ok v_154)) fun v_155 => (imod v_155 prime_106))) (by decide) Sub.nil (fun η hl h => (u_op2 (bE (u_call (a_consE (u_op2 (bE (u_op2 (bP (e_var (x := s_151) h 7 rfl) (bP (e_var (x := root_142) h 6 rfl) (l_mul (x := s_151) (y := root_142))))) fun v_153 => (bP (e_var (x := root_142) h 6 rfl) (l_mul (x := v_153) (y := root_142))))) fun v_154 => (a_nil (l_int (x := v_154))))) fun v_155 => (bP (e_var (x := prime_106) h 5 rfl) (l_mod (x := v_155) (y := prime_106)))))) fun other_156 => (k_ifP (fun η hl h => (u_qB (u_op2 (bP (e_var (x := other_156) h 7 rfl) (bP (e_var (x := root_142) h 6 rfl) (l_lt (x := other_156) (y := root_142))))))) (k_retP fun η hl h => (e_lit (x := false) rfl)) (k_next (k_end (Sub.of ⟨rfl, rfl, rfl, rfl, rfl, trivial⟩))))))) fun s_157 => (k_seq (k_asgE (r := (Res.bind (p__law_cell script (2 : Int)) fun v_213 => (Res.bind (Res.bind (Res.bind (ishl (1 : Int) (50 : Int)) fun v_158 => (Res.ok ([prime_106, v_158] : List Int))) fun v_161 => (Res.bind (Res.bind (Res.bind (p__law_cell script (2 : Int)) fun v_159 => (Res.ok (iabs v_159))) fun v_160 => (imod v_160 (2 : Int))) fun v_162 => (ix v_161 v_162))) fun v_214 => (p__law_poly v_213 size_9 v_214)))) (by decide) Sub.nil (fun η hl h => (u_call (a_consE (u_call (a_consP (e_var (x := script) h 0 rfl) (a_consP (e_lit (x := (2 : Int)) rfl) (a_nil (s__law_cell script (2 : Int)))))) fun v_213 => (a_consP (e_var (x := size_9) h 1 rfl) (a_consE (u_op2 (bE (u_lst (a_consP (e_var (x := prime_106) h 5 rfl) (a_consE (u_op2 (bP (e_lit (x := (1 : Int)) rfl) (bP (e_lit (x := (50 : Int)) rfl) (l_shl (x := (1 : Int)) (y := (50 : Int)))))) fun v_158 => (a_nil (l_lst (xs := ([prime_106, v_158] : List Int)) rfl rfl))))) fun v_161 => (bE (u_op2 (bE (u_call (a_consE (u_call (a_consP (e_var (x := script) h 0 rfl) (a_consP (e_lit (x := (2 : Int)) rfl) (a_nil (s__law_cell script (2 : Int)))))) fun v_159 => (a_nil (l_abs (x := v_159))))) fun v_160 => (bP (e_lit (x := (2 : Int)) rfl) (l_mod (x := v_160) (y := (2 : Int)))))) fun v_162 => (l_ix (xs := v_161) (x := v_162))))) fun v_214 => (a_nil (s__law_poly v_213 size_9 v_214))))))) fun a_215 => (k_seq (k_asgE (r := (Res.ok a_215)) (by decide) Sub.nil (fun η hl h => (u_call (a_consP (e_var (x := a_215) h 9 rfl) (a_nil (l_list (xs := a_215)))))) fun given_216 => (k_seq (k_asgE (r := (p_transform given_216 prime_106)) (by decide) Sub.nil (fun η hl h => (u_call (a_consP (e_var (x := given_216) h 10 rfl) (a_consP (e_var (x := prime_106) h 5 rfl) (a_nil (s_transform given_216 prime_106)))))) fun values_234 => (k_seq (k_ifE Sub.nil (fun η hl h => (u_qOr (u_qNot (u_qTruB (u_call (a_consP (e_var (x := values_234) h 11 rfl) (a_consE (u_call (a_consP (e_var (x := a_215) h 9 rfl) (a_consP (e_var (x := root_142) h 6 rfl) (a_consP (e_var (x := prime_106) h 5 rfl) (a_nil (s__law_values a_215 root_142 prime_106)))))) fun v_251 => (a_nil (s__law_is_list values_234 v_251))))))) (u_qB (u_op2 (bP (e_var (x := given_216) h 10 rfl) (bP (e_var (x := a_215) h 9 rfl) (l_ne (x := given_216) (y := a_215)))))))) (k_retP fun η hl h => (e_lit (x := false) rfl)) (k_next (k_seq (k_asgE (r := (Res.ok values_234)) (by decide) Sub.nil (fun η hl h => (u_call (a_consP (e_var (x := values_234) h 11 rfl) (a_nil (l_list (xs := values_234)))))) fun passed_252 => (k_seq (k_ifE Sub.nil (fun η hl h => (u_qOr (u_qNot (u_qTruB (u_call (a_consE (u_call (a_consP (e_var (x := passed_252) h 12 rfl) (a_consP (e_var (x := prime_106) h 5 rfl) (a_nil (s_transform_back passed_252 prime_106))))) fun v_289 => (a_consE (compE hl h (i_seqP (e_var (x := a_215) h 9 rfl)) (fun x_288 => (t_name 15 (by decide))) (fun x_288 η hl h => (u_op2 (bP (u_call (a_consP (e_var (x := x_288) h 15 rfl) (a_nil (l_int (x := x_288))))) (bP (e_var (x := prime_106) h 5 rfl) (l_mod (x := x_288) (y := prime_106))))))) fun v_290 => (a_nil (s__law_is_list v_289 v_290))))))) (u_qB (u_op2 (bP (e_var (x := passed_252) h 12 rfl) (bP (e_var (x := values_234) h 11 rfl) (l_ne (x := passed_252) (y := values_234)))))))) (k_retP fun η hl h => (e_lit (x := false) rfl)) (k_next (k_seq (k_asgE (r := (Res.bind (Res.bind (p__law_cell script (3 : Int)) fun v_291 => (p__law_poly v_291 size_9 prime_106)) fun xs_293 => (cmapE (fun (x_292 : Int) => (imod x_292 prime_106)) xs_293))) (by decide) Sub.nil (fun η hl h => (compI (i_seqE (u_call (a_consE (u_call (a_consP (e_var (x := script) h 0 rfl) (a_consP (e_lit (x := (3 : Int)) rfl) (a_nil (s__law_cell script (3 : Int)))))) fun v_291 => (a_consP (e_var (x := size_9) h 1 rfl) (a_consP (e_var (x := prime_106) h 5 rfl) (a_nil (s__law_poly v_291 size_9 prime_106))))))) fun xs_293 hi => (compE hl h hi (fun x_292 => (t_name 15 (by decide))) (fun x_292 η hl h => (u_op2 (bP (u_call (a_consP (e_var (x := x_292) h 15 rfl) (a_nil (l_int (x := x_292))))) (bP (e_var (x := prime_106) h 5 rfl) (l_mod (x := x_292) (y := prime_106))))))))) fun row_294 => (k_seq (k_asgE (r := (p_transform_back row_294 prime_106)) (by decide) Sub.nil (fun η hl h => (u_call (a_consP (u_call (a_consP (e_var (x := row_294) h 13 rfl) (a_nil (l_list (xs := row_294))))) (a_consP (e_var (x := prime_106) h 5 rfl) (a_nil (s_transform_back row_294 prime_106)))))) fun back_295 => (k_seq (k_ifE Sub.nil (fun η hl h => (u_qOr (u_qB (u_op2 (bE (u_call (a_consE (compQ hl h (i_seqP (e_var (x := back_295) h 14 rfl)) (fun x_296 => (t_name 15 (by decide))) (fun x_296 η hl h => (u_qNotP (u_qB (u_chain' (bP (e_lit (x := (0 : Int)) rfl) (bP (e_var (x := x_296) h 15 rfl) (chain_inP (l_le (x := (0 : Int)) (y := x_296)) (bP (e_var (x := prime_106) h 5 rfl) (l_lt (x := x_296) (y := prime_106)))))))))) (fun x_296 η hl h => (e_var (x := x_296) h 15 rfl))) fun v_297 => (a_nil (l_len (xs := v_297))))) fun v_298 => (bP (e_lit (x := (0 : Int)) rfl) (l_gt (x := v_298) (y := (0 : Int))))))) (u_qNot (u_qTruB (u_call (a_consE (u_call (a_consP (u_call (a_consP (e_var (x := back_295) h 14 rfl) (a_nil (l_list (xs := back_295))))) (a_consP (e_var (x := prime_106) h 5 rfl) (a_nil (s_transform back_295 prime_106))))) fun v_299 => (a_consP (e_var (x := row_294) h 13 rfl) (a_nil (s__law_is_list v_299 row_294))))))))) (k_retP fun η hl h => (e_lit (x := false) rfl)) (k_next (k_retE Sub.nil fun η hl h => (u_call (a_consP (e_var (x := a_215) h 9 rfl) (a_consP (e_var (x := prime_106) h 5 rfl) (a_nil (s__law_bounds a_215 prime_106)))))))))))))))))))))))))))))))))))))))))))))))))))
end K05
namespace K05
open PySem hiding Env
open VL VT Enc
local macro_rules
  | `(tactic| trivial) => `(tactic| first
    | assumption
    | exact Sz_num
    | (refine mul_ok ?_ ?_ ?_ <;> trivial)
    | (refine Sz.mul ?_ ?_ <;> trivial)
    | (refine Sz.add ?_ ?_ <;> trivial)
    | (refine Sz.sub ?_ ?_ <;> trivial)
    | (refine Sz.neg ?_ <;> trivial)
    | (refine div_ok (by omega) (Sz.mono ?_ ?_) <;> trivial)
    | (refine Sz.mod ?_ (by omega) <;> trivial)
    | (refine Sz.div ?_ (by omega) <;> trivial)
    | omega
    | decide)
def szOk (n : Int) : Bool := decide (1 ≤ n) && decide (n ≤ 1024) && decide (Builtin.bitAnd n (n - 1) = 0)
theorem cs_eq (n : Int) : p_check_size n = if szOk n then .ok () else .exc .range := by
  unfold p_check_size szOk
  cases decide (1 ≤ n) <;> cases decide (n ≤ 1024) <;> cases decide (Builtin.bitAnd n (n - 1) = 0) <;> rfl
theorem sz_pow : ∀ e : Nat, e < 11 → szOk ((2 ^ e : Nat) : Int) = true := by decide
def Pl (e : Nat) (a : List Int) : Prop := a.length = 2 ^ e ∧ e ≤ 10
section
variable {e : Nat} {a b : List Int}
theorem Pl.pos (h : Pl e a) : 0 < a.length := by rw [h.1]; exact Nat.two_pow_pos e
theorem Pl.le (h : Pl e a) : a.length ≤ 1024 := by
  rw [h.1]
  exact Nat.pow_le_pow_right (n := 2) (by decide) h.2
theorem Pl.cs (h : Pl e a) : p_check_size (ilen a) = .ok () := by
  unfold ilen
  rw [cs_eq, h.1, sz_pow e (by have := h.2; omega), if_pos rfl]
theorem Pl.of (h : Pl e a) (hl : b.length = a.length) : Pl e b := ⟨hl.trans h.1, h.2⟩
end
theorem is_list_self (a : List Int) : p__law_is_list a a = .ok true := by
  have lp := tFor_all (β := Unit) (ρ := Bool) (xs := a.zip a) (f := fun x s => onE (ror (Res.bind (p__law_integer x.1) fun c => .ok (!c)) (Res.ok (!decide (x.1 = x.2)))) fun c => if c then (.rt false) else (.nx ())) fun x hx => by
    have e : x.1 = x.2 := by
      obtain ⟨i, hi⟩ := List.getElem?_of_mem hx
      obtain ⟨h1, h2⟩ := zip_some hi
      rw [h1] at h2
      exact Option.some.inj h2
    left
    simp [p__law_integer, e]
  simp [p__law_is_list, lp]
theorem cm_ok {k : Int} (h : 1 ≤ k) : p_check_modulus k = .ok () := by
  unfold p_check_modulus
  rw [decide_eq_false (by omega)]; rfl
theorem cm_ex {k : Int} (h : k < 1) : p_check_modulus k = .exc .range := by
  unfold p_check_modulus
  rw [decide_eq_true h]; rfl
theorem inverse_gen {a k : Int} (h : 1 ≤ k) (zk : Sz 8000 k) : (Nat.gcd k.toNat (a % k).toNat = 1 ∧ ∃ v, p_inverse a k = .ok v ∧ 0 ≤ v ∧ v < k ∧ (v * a - 1) % k = 0) ∨ (Nat.gcd k.toNat (a % k).toNat ≠ 1 ∧ p_inverse a k = .exc .notThere) := by
  have a0 := Int.emod_nonneg a (show k ≠ 0 by omega)
  have a1 := Int.emod_lt_of_pos a (show 0 < k by omega)
  have im : ∀ x, imod x k = .ok (x % k) := fun x => imod_ok (by omega)
  have szn : ∀ x : Nat, (x : Int) ≤ k → Sz 8000 (x : Int) := fun x hx => Sz.of_range zk (by omega) hx
  unfold p_inverse
  simp only [cm_ok h, on_ok, im, rb_ok]
  generalize hg : Nat.gcd k.toNat (a % k).toNat = g
  refine while_gen (fun t => (g = 1 ∧ ∃ v, tRun t = .ok v ∧ 0 ≤ v ∧ v < k ∧ (v * a - 1) % k = 0) ∨ (g ≠ 1 ∧ tRun t = .exc .notThere))
    (fun s => ∃ (x y u v : Nat) (e c d : Int), (e = 1 ∨ e = -1) ∧ s = ((x : Int), (y : Int), -(e * u), e * v) ∧ Nat.gcd x y = g ∧ v * x + u * y = k.toNat ∧ 1 ≤ v ∧ y < x ∧ e * v * a = y + k * c ∧ -(e * u) * a = x + k * d) (fun s => s.2.1.toNat)
    ⟨k.toNat, (a % k).toNat, 0, 1, 1, a / k, -1, .inl rfl, ?_, hg, by simp, Nat.le_refl _, by omega, ?_, ?_⟩ (fun s hs => ?_)
  · rw [show ((k.toNat : Nat) : Int) = k by omega, show (((a % k).toNat : Nat) : Int) = a % k by omega]
    rfl
  · have := Int.emod_add_mul_ediv a k
    rw [show (((a % k).toNat : Nat) : Int) = a % k by omega]
    simp
    omega
  · rw [show ((k.toNat : Nat) : Int) = k by omega]
    simp
    omega
  · obtain ⟨x, y, u, v, e, c, d, he, rfl, hgx, hK, hv, hl, e1, e2⟩ := hs
    have kN : (k.toNat : Int) = k := by omega
    have xv : x ≤ v * x := Nat.le_mul_of_pos_left x hv
    have vx : v ≤ v * x := Nat.le_mul_of_pos_right v (by omega)
    by_cases hy : y = 0
    · left
      subst hy
      rw [Nat.gcd_zero_right] at hgx
      subst hgx
      refine ⟨rfl, ?_⟩
      by_cases h1 : x = 1
      · left
        refine ⟨h1, (-(e * u)) % k, ?_, Int.emod_nonneg _ (by omega), Int.emod_lt_of_pos _ (by omega), ?_⟩
        · have : ¬ (!decide ((x : Int) = 1)) = true := by rw [decide_eq_true (by omega)]; decide
          rw [if_neg this]
          simp only [im, on_ok, rn_rt]
        · rw [Int.sub_emod, mul_emod_l, ← Int.sub_emod, e2, h1]
          rw [show ((1 : Nat) : Int) + k * d - 1 = k * d by omega]
          exact Int.mul_emod_right _ _
      · right
        refine ⟨h1, ?_⟩
        have : (!decide ((x : Int) = 1)) = true := by rw [decide_eq_false (by omega)]; rfl
        rw [if_pos this]; rfl
    · right
      refine ⟨by rw [decide_eq_true (by show (y : Int) > 0; omega)], ?_⟩
      have dv : idiv (x : Int) (y : Int) = .ok ((x / y : Nat) : Int) := by
        rw [idiv_ok (div_ok (by omega) ((szn y (by omega)).mono (by decide)))]; rfl
      have qle : x / y ≤ x := Nat.div_le_self x y
      have q := Nat.div_add_mod x y
      have m1 : imul ((x / y : Nat) : Int) (y : Int) = .ok (((x / y : Nat) : Int) * y) := imul_ok (mul_ok (szn _ (by omega)) (szn _ (by omega)) (by decide))
      have zev : Sz 8000 (e * v) := by
        rcases he with rfl | rfl
        · rw [Int.one_mul]; exact szn v (by omega)
        · rw [Int.neg_mul, Int.one_mul]; exact (szn v (by omega)).neg
      have m2 : imul ((x / y : Nat) : Int) (e * v) = .ok (((x / y : Nat) : Int) * (e * v)) := imul_ok (mul_ok (szn _ (by omega)) zev (by decide))
      have q' : (y : Int) * ((x / y : Nat) : Int) + ((x % y : Nat) : Int) = x := by
        have := congrArg (fun n : Nat => (n : Int)) q
        simpa using this
      simp only [dv, on_ok, m1, m2, rb_ok]
      refine .nx ⟨⟨y, x % y, v, u + x / y * v, -e, d - ((x / y : Nat) : Int) * c, c, ?_, ?_, ?_, ?_, ?_, Nat.mod_lt x (by omega), ?_, ?_⟩, ?_⟩
      · rcases he with rfl | rfl
        · exact .inr rfl
        · exact .inl rfl
      · refine Prod.ext rfl (Prod.ext ?_ (Prod.ext ?_ ?_))
        · show (x : Int) - ((x / y : Nat) : Int) * y = ((x % y : Nat) : Int)
          rw [Int.mul_comm]; omega
        · show e * (v : Int) = -(-e * (v : Int))
          rw [Int.neg_mul, Int.neg_neg]
        · show -(e * (u : Int)) - ((x / y : Nat) : Int) * (e * v) = -e * ((u + x / y * v : Nat) : Int)
          rw [show ((u + x / y * v : Nat) : Int) = (u : Int) + ((x / y : Nat) : Int) * v by simp, Int.neg_mul, Int.mul_add, Int.mul_left_comm e]
          omega
      · rw [nat_gcd_step, hgx]
      · rw [Nat.add_mul, ← hK, Nat.mul_right_comm, Nat.mul_comm (x / y) y]
        have : v * x = v * (y * (x / y)) + v * (x % y) := by rw [← Nat.mul_add, q]
        rw [this, Nat.mul_comm (y * (x / y)) v]
        omega
      · have hq : 1 ≤ x / y := Nat.div_pos (by omega) (by omega)
        have : 1 * 1 ≤ x / y * v := Nat.mul_le_mul hq hv
        omega
      · rw [show ((u + x / y * v : Nat) : Int) = (u : Int) + ((x / y : Nat) : Int) * v by simp]
        have t1 : -e * ((u : Int) + ((x / y : Nat) : Int) * v) * a = -(e * u) * a - ((x / y : Nat) : Int) * (e * v * a) := by
          rw [Int.neg_mul, Int.mul_add, Int.neg_add, Int.add_mul, Int.neg_mul (e * (((x / y : Nat) : Int) * v)), Int.mul_left_comm e, Int.mul_assoc ((x / y : Nat) : Int)]
          omega
        rw [t1, e1, e2, Int.mul_add, Int.mul_sub, Int.mul_left_comm ((x / y : Nat) : Int) k]
        rw [Int.mul_comm ((x / y : Nat) : Int) y]
        omega
      · rw [show -(-e * (v : Int)) = e * v by rw [Int.neg_mul, Int.neg_neg]]
        exact e1
      · show ((x : Int) - ((x / y : Nat) : Int) * y).toNat < ((y : Nat) : Int).toNat
        have := Nat.mod_lt x (by omega : 0 < y)
        rw [Int.mul_comm]; omega
theorem ngcd_mod {a k : Int} (h : 1 ≤ k) : Nat.gcd k.toNat (a % k).toNat = Nat.gcd a.natAbs k.natAbs := by
  have a0 := Int.emod_nonneg a (show k ≠ 0 by omega)
  have e : Int.gcd k (a + k * (-(a / k))) = Int.gcd k a := Int.gcd_add_mul_left_right k a _
  have e2 : a + k * (-(a / k)) = a % k := by
    have := Int.emod_add_mul_ediv a k
    rw [Int.mul_neg]; omega
  rw [e2] at e
  rw [Nat.gcd_comm a.natAbs]
  have n1 : k.toNat = k.natAbs := by omega
  have n2 : (a % k).toNat = (a % k).natAbs := by omega
  rw [n1, n2]
  exact e
theorem power_ok (a : Int) (n : Nat) {k : Int} (h : 1 ≤ k) (zk : Sz 8000 k) : p_power a (n : Int) k = .ok (a ^ n % k) := by
  have im : ∀ x, imod x k = .ok (x % k) := fun x => imod_ok (by omega)
  have c0 : decide ((n : Int) < 0) = false := decide_eq_false (by omega)
  have md : ∀ x : Int, 0 ≤ x % k ∧ x % k < k := fun x => ⟨Int.emod_nonneg _ (by omega), Int.emod_lt_of_pos _ (by omega)⟩
  have mm : ∀ {x y : Int}, 0 ≤ x → x < k → 0 ≤ y → y < k → imul x y = .ok (x * y) := fun {x y} h1 h2 h3 h4 => imul_ok (mul_ok (Sz.of_range zk h1 (by omega)) (Sz.of_range zk h3 (by omega)) (by decide))
  unfold p_power
  rw [c0, if_neg (by decide)]
  simp only [cm_ok h, on_ok, im]
  refine while_gen (fun t => tRun t = .ok (a ^ n % k)) (fun s => ∃ m : Nat, s.2.1 = (m : Int) ∧ (0 ≤ s.1 ∧ s.1 < k) ∧ (0 ≤ s.2.2 ∧ s.2.2 < k) ∧ (s.2.2 * s.1 ^ m) % k = a ^ n % k) (fun s => s.2.1.toNat) ⟨n, rfl, md _, md _, ?_⟩ (fun s hs => ?_)
  · rw [mul_emod_l, Int.one_mul, pow_emod]
  · obtain ⟨x, e, r⟩ := s
    obtain ⟨m, he, ⟨x0, x1⟩, ⟨r0, r1⟩, hc⟩ := hs
    have he : e = (m : Int) := he
    subst he
    have r0 : 0 ≤ r := r0
    have r1 : r < k := r1
    have x0 : 0 ≤ x := x0
    have x1 : x < k := x1
    have hc : (r * x ^ m) % k = a ^ n % k := hc
    by_cases hm : m = 0
    · left
      subst hm
      refine ⟨rfl, ?_⟩
      rw [rn_rt, ← hc, Int.pow_zero, Int.mul_one, Int.emod_eq_of_lt r0 r1]
    · right
      refine ⟨by rw [decide_eq_true (by show (m : Int) > 0; omega)], ?_⟩
      have b1 : Builtin.bitAnd (m : Int) 1 = ((m % 2 : Nat) : Int) := by rw [bit_one (by omega)]; rfl
      have sr : ishr (m : Int) 1 = .ok ((m / 2 : Nat) : Int) := by rw [ishr_ok (by decide)]; rfl
      have xx : imul x x = .ok (x * x) := mm x0 x1 x0 x1
      have rx : imul r x = .ok (r * x) := mm r0 r1 x0 x1
      have pw : (x * x % k) ^ (m / 2) % k = (x ^ (2 * (m / 2))) % k := by
        rw [pow_emod, Int.pow_mul, show x ^ 2 = x * x by rw [Int.pow_succ, Int.pow_succ, Int.pow_zero, Int.one_mul]]
      simp only [b1, xx, rx, sr, rb_ok, im, on_ok]
      by_cases hp : m % 2 = 1
      · rw [hp]
        simp only [show decide (((1 : Nat) : Int) = 1) = true from rfl, if_true, tb_nx]
        refine .nx ⟨⟨m / 2, rfl, md _, md _, ?_⟩, ?_⟩
        · show ((r * x % k) * (x * x % k) ^ (m / 2)) % k = _
          rw [← hc, mul_emod_l, ← mul_emod_r, pw, mul_emod_r, Int.mul_assoc, ← Int.pow_succ']
          rw [show 2 * (m / 2) + 1 = m by omega]
        · show ((m / 2 : Nat) : Int).toNat < (m : Int).toNat
          omega
      · have hp0 : m % 2 = 0 := by omega
        rw [hp0]
        simp only [show decide (((0 : Nat) : Int) = 1) = false from rfl, Bool.false_eq_true, if_false, tb_nx]
        refine .nx ⟨⟨m / 2, rfl, md _, ⟨r0, r1⟩, ?_⟩, ?_⟩
        · show (r * (x * x % k) ^ (m / 2)) % k = _
          rw [← hc, ← mul_emod_r, pw, mul_emod_r, show 2 * (m / 2) = m by omega]
        · show ((m / 2 : Nat) : Int).toNat < (m : Int).toNat
          omega
theorem isprime_ex {n : Int} (h : 4294967296 ≤ n) : p_is_prime n = .exc .range := by
  have sh : ishl 1 32 = .ok 4294967296 := ishl_ok (by decide +kernel)
  unfold p_is_prime
  simp only [sh, rb_ok, on_ok]
  rw [if_pos (decide_eq_true (show n ≥ 4294967296 by omega))]; rfl
theorem isprime_ok {n : Int} (h : n < 4294967296) : p_is_prime n = .ok (prB n) := by
  have sh : ishl 1 32 = .ok 4294967296 := ishl_ok (by decide +kernel)
  have i2 : imod n 2 = .ok (n % 2) := imod_ok (by decide)
  unfold p_is_prime
  simp only [sh, rb_ok, on_ok]
  rw [if_neg (by rw [decide_eq_false (show ¬ n ≥ 4294967296 by omega)]; decide)]
  by_cases h4 : n < 4
  · rw [if_pos (decide_eq_true h4), rn_rt]
    congr 1
    by_cases h1 : n > 1
    · rw [decide_eq_true h1, prB_t]
      refine ⟨by omega, fun d hd hq => ?_⟩
      have := sq_le (a := 2) (by decide) hd
      omega
    · rw [decide_eq_false h1, prB_f fun q => by have := q.1; omega]
  · rw [if_neg (by simpa using h4)]
    simp only [i2, rb_ok, on_ok]
    by_cases he : n % 2 = 0
    · rw [if_pos (decide_eq_true he), rn_rt, prB_f fun q => q.2 2 (by decide) (by omega) he]
    · rw [if_neg (by simpa using he)]
      refine while_gen (fun t => tRun t = .ok (prB n)) (fun s => 3 ≤ s ∧ s % 2 = 1 ∧ s ≤ 70000 ∧ ∀ d, 2 ≤ d → d < s → n % d ≠ 0) (fun s => (70002 - s).toNat) ⟨by decide, by decide, by decide, fun d h1 h2 => by rw [show d = 2 by omega]; exact he⟩ (fun s hs => ?_)
      obtain ⟨s3, so, sb, sd⟩ := hs
      have ms : imul s s = .ok (s * s) := imul_ok (mul_ok (n := 20) (m := 20) (by unfold Sz; omega) (by unfold Sz; omega) (by decide))
      have im : imod n s = .ok (n % s) := imod_ok (by omega)
      by_cases hq : s * s ≤ n
      · right
        refine ⟨by simp only [ms, rb_ok, decide_eq_true hq], ?_⟩
        simp only [im, rb_ok, on_ok]
        by_cases hz : n % s = 0
        · rw [if_pos (decide_eq_true hz)]
          refine .rt ?_
          rw [rn_rt, prB_f fun q => q.2 s (by omega) hq hz]
        · rw [if_neg (by simpa using hz)]
          have s6 : s < 65536 := by
            by_cases c : s < 65536
            · exact c
            · have := sq_le (a := 65536) (by decide) (by omega : (65536 : Int) ≤ s)
              omega
          refine .nx ⟨⟨by omega, by omega, by omega, fun d h1 h2 => ?_⟩, by omega⟩
          by_cases c : d < s
          · exact sd d h1 c
          · by_cases c2 : d = s
            · rw [c2]; exact hz
            · have : d = s + 1 := by omega
              subst this
              intro q
              apply he
              have := Int.emod_emod_of_dvd n (show (2 : Int) ∣ s + 1 by omega)
              rw [q] at this
              omega
      · left
        refine ⟨by simp only [ms, rb_ok, decide_eq_false hq], ?_⟩
        rw [rn_rt, prB_t]
        refine ⟨by omega, fun d h1 h2 => sd d h1 ?_⟩
        by_cases c : d < s
        · exact c
        · exfalso
          have := sq_le (a := s) (by omega) (by omega : s ≤ d)
          omega
theorem cell_ok (ns : List Int) (k : Nat) : p__law_cell ns (k : Int) = .ok (cell ns k) := by
  unfold p__law_cell cell ilen
  by_cases h : k < ns.length
  · rw [if_pos (by simpa using h)]
    have e : ns[k]? = some (ns[k]) := List.getElem?_eq_getElem h
    rw [ix_ok e, e]
    rfl
  · rw [if_neg (by simpa using h), List.getElem?_eq_none (by omega)]
    rfl
theorem mixed_ok {c k : Int} (zc : Sz 2000000 c) (zk : Sz 1000 k) : ∃ v : Int, p__law_mixed c k = .ok v ∧ 0 ≤ v ∧ v < 2147483648 := by
  have s1 : Sz 100 (2147483647 : Int) := Sz.lit (by decide)
  have m1 : imul c 48271 = .ok (c * 48271) := imul_ok (mul_ok (m := 100) zc (Sz.lit (by decide)) (by decide))
  have m2 : imul k 69621 = .ok (k * 69621) := imul_ok (mul_ok (m := 100) zk (Sz.lit (by decide)) (by decide))
  have m4 : imul k 40692 = .ok (k * 40692) := imul_ok (mul_ok (m := 100) zk (Sz.lit (by decide)) (by decide))
  have m6 : imul k 30269 = .ok (k * 30269) := imul_ok (mul_ok (m := 100) zk (Sz.lit (by decide)) (by decide))
  have sq : ∀ x : Int, Sz 100 x → imul x x = .ok (x * x) := fun x zx => imul_ok (mul_ok zx zx (by decide))
  have z1 : Sz 100 ((c * 48271 + k * 69621 + 7) % 2147483647) := Sz.mod s1 (by decide)
  generalize hx1 : (c * 48271 + k * 69621 + 7) % 2147483647 = x1 at z1
  have z2 : Sz 100 ((x1 * x1 + k * 40692 + 3) % 2147483629) := Sz.mod (Sz.lit (by decide)) (by decide)
  generalize hx2 : (x1 * x1 + k * 40692 + 3) % 2147483629 = x2 at z2
  have a := Int.emod_nonneg (x2 * x2 + k * 30269 + 5) (show (2147483587 : Int) ≠ 0 by decide)
  have b := Int.emod_lt_of_pos (x2 * x2 + k * 30269 + 5) (show (0 : Int) < 2147483587 by decide)
  refine ⟨(x2 * x2 + k * 30269 + 5) % 2147483587 / 64, ?_, by omega, by omega⟩
  have d64 : ∀ x : Int, idiv x 64 = .ok (x / 64) := fun x => idiv_ok (lit_div (by decide) (by decide +kernel))
  have i1 : ∀ x : Int, imod x 2147483647 = .ok (x % 2147483647) := fun x => imod_ok (by decide)
  have i2 : ∀ x : Int, imod x 2147483629 = .ok (x % 2147483629) := fun x => imod_ok (by decide)
  have i3 : ∀ x : Int, imod x 2147483587 = .ok (x % 2147483587) := fun x => imod_ok (by decide)
  simp only [p__law_mixed, m1, m2, m4, m6, rb_ok, i1, i2, i3, on_ok, hx1, sq _ z1, hx2, sq _ z2, d64, rn_rt]
theorem wide_ok {c k m : Int} (zc : Sz 2000000 c) (k0 : 0 ≤ k) (k1 : k ≤ 5000) : ∃ v : Int, p__law_wide c k m = .ok v := by
  have zk : ∀ x : Int, 0 ≤ x → x ≤ 10000 → Sz 1000 x := fun x h1 h2 => Sz.mono (n := 20) (by unfold Sz; omega) (by decide)
  obtain ⟨v1, e1, a1, b1⟩ := mixed_ok zc (zk k (by omega) (by omega))
  obtain ⟨v2, e2, a2, b2⟩ := mixed_ok zc (zk (k + 100) (by omega) (by omega))
  have sh : ishl 1 45 = .ok 35184372088832 := ishl_ok (by decide +kernel)
  have r26 : irange2 2 6 = .ok (rng 2 4) := irange2_ok (by decide) (by decide) (by decide) (by decide)
  have mm : ∀ x : Int, Sz 10000 x → imul x 33554432 = .ok (x * 33554432) := fun x zx => imul_ok (mul_ok (m := 100) zx (Sz.lit (by decide)) (by decide))
  have zv1 : Sz 40 v1 := by unfold Sz; omega
  have zn : Sz 200 (v1 * 33554432 + v2) := Sz.mono (n := 141) (Sz.add (n := 140) (Sz.mul (m := 100) zv1 (Sz.lit (by decide))) (Sz.mono (n := 40) (by unfold Sz; omega) (by decide))) (by decide)
  unfold p__law_wide
  simp only [e1, e2, mm v1 (zv1.mono (by decide)), rb_ok, on_ok, sh]
  split
  · rw [r26, on_ok]
    refine for_idx (fun t => ∃ v : Int, tRun t = .ok v) (fun i s => Sz (200 + 200 * i) s) zn (fun i x s hx hs => ?_) fun s _ => ⟨s, rfl⟩
    obtain ⟨hi, rfl⟩ := rng_some hx
    obtain ⟨v, ev, a, b⟩ := mixed_ok zc (zk (k + 100 * (2 + (i : Int))) (by omega) (by omega))
    have m1 : imul 100 (2 + (i : Int)) = .ok (100 * (2 + (i : Int))) := imul_ok (mul_ok (n := 20) (m := 20) (Sz.lit (by decide)) (by unfold Sz; omega) (by decide))
    refine ⟨s * 33554432 + v, .inl ?_, ?_⟩
    · simp only [mm s (hs.mono (by omega)), m1, rb_ok, ev, on_ok]
    · exact Sz.mono (Sz.add (n := 200 + 200 * i + 100) (Sz.mul (m := 100) hs (Sz.lit (by decide))) (Sz.mono (n := 40) (by unfold Sz; omega) (by omega))) (by omega)
  · exact ⟨_, rfl⟩
theorem poly_ok {c m : Int} {n : Nat} (zc : Sz 1048576 c) (hn : n ≤ 1024) (m1 : 1 ≤ m) (m2 : m ≤ 1125899906842624) : ∃ row : List Int, p__law_poly c n m = .ok row ∧ row.length = n ∧ ∀ x ∈ row, -m ≤ x ∧ x ≤ m := by
  have pw : ipow 10 18 = .ok 1000000000000000000 := ipow_ok (by decide +kernel)
  have rn : irange (n : Int) = .ok (rng 0 n) := irange_ok (by omega)
  have mm : imul 2 m = .ok (2 * m) := imul_ok (mul_ok (n := 2) (m := 60) (Sz.lit (by decide)) (by unfold Sz; omega) (by decide))
  have im : ∀ x : Int, imod x (2 * m + 1) = .ok (x % (2 * m + 1)) := fun x => imod_ok (by omega)
  have di : ∀ x : Int, idiv x (2 * m + 1) = .ok (x / (2 * m + 1)) := fun x => idiv_ok (div_ok (by omega) (Sz.mono (n := 60) (by unfold Sz; omega) (by decide)))
  have md : ∀ x : Int, -m ≤ x % (2 * m + 1) - m ∧ x % (2 * m + 1) - m ≤ m := fun x => by
    have a := Int.emod_nonneg x (show 2 * m + 1 ≠ 0 by omega)
    have b := Int.emod_lt_of_pos x (show 0 < 2 * m + 1 by omega)
    omega
  unfold p__law_poly
  simp only [on_ok, pw, rb_ok, rn]
  refine for_idx (fun t => ∃ row : List Int, tRun t = .ok row ∧ row.length = n ∧ ∀ x ∈ row, -m ≤ x ∧ x ≤ m) (fun i (s : Int × List Int) => s.2.length = i ∧ ∀ x ∈ s.2, -m ≤ x ∧ x ≤ m) ⟨rfl, by simp⟩ (fun i x s hx hs => ?_) fun s hs => ⟨s.2, rfl, by simpa using hs.1, hs.2⟩
  obtain ⟨hi, rfl⟩ := rng_some hx
  obtain ⟨left, row⟩ := s
  obtain ⟨hl, hb⟩ := hs
  have ap : ∀ v : Int, lapp row v = .ok (row ++ [v]) := fun v => lapp_ok (by simp at hl; omega)
  have bd : ∀ v : Int, -m ≤ v ∧ v ≤ m → ∀ x ∈ row ++ [v], -m ≤ x ∧ x ≤ m := fun v hv x hx => by
    rcases List.mem_append.mp hx with h | h
    · exact hb x h
    · obtain rfl : x = v := by simpa using h
      exact hv
  by_cases hc : (decide (iabs c ≥ (1000000000000000000 : Int)) && (decide (left > (0 : Int)))) = true
  · refine ⟨(left / (2 * m + 1), row ++ [left % (2 * m + 1) - m]), .inl ?_, ?_⟩
    · simp only [hc, if_true, mm, rb_ok, im, on_ok, ap, di]
    · exact ⟨by simp at hl ⊢; omega, bd _ (md left)⟩
  · obtain ⟨v, ev⟩ := wide_ok (c := c) (k := 0 + (i : Int)) (m := m) (zc.mono (by decide)) (by omega) (by omega)
    refine ⟨(left, row ++ [v % (2 * m + 1) - m]), .inl ?_, ?_⟩
    · simp only [hc, if_false, ev, mm, rb_ok, im, on_ok, ap, Bool.false_eq_true]
    · exact ⟨by simp at hl ⊢; omega, bd _ (md v)⟩
theorem mod_nat (x : Int) {m : Nat} (hm : 0 < m) : ∃ r : Nat, x % (m : Int) = r ∧ r < m := by
  have a := Int.emod_nonneg x (show (m : Int) ≠ 0 by omega)
  have b := Int.emod_lt_of_pos x (show 0 < (m : Int) by omega)
  exact ⟨(x % m).toNat, by omega, by omega⟩
/-! numbers of the kind -/
/-- prime, 1 modulo twice the size -/
structure Gp (p : Int) (e : Nat) : Prop where
  pr : Pr p
  one : p % (2 * ((2 ^ e : Nat) : Int)) = 1
  lt : p < 2147483648
  he : e ≤ 8
theorem Gp.np {p : Int} {e : Nat} (h : Gp p e) : 0 < 2 ^ e := Nat.two_pow_pos e
theorem Gp.nl {p : Int} {e : Nat} (h : Gp p e) : 2 ^ e ≤ 256 := Nat.pow_le_pow_right (n := 2) (by decide) h.he
theorem Gp.mul {p : Int} {e : Nat} (h : Gp p e) : p = 2 * ((2 ^ e : Nat) : Int) * (p / (2 * ((2 ^ e : Nat) : Int))) + 1 := by
  have := Int.mul_ediv_add_emod p (2 * ((2 ^ e : Nat) : Int))
  rw [h.one] at this
  omega
theorem Gp.p3 {p : Int} {e : Nat} (h : Gp p e) : 3 ≤ p := by
  have a := h.pr.1
  have b := h.mul
  by_cases c : 3 ≤ p
  · exact c
  · exfalso
    have : p = 2 := by omega
    rw [this] at b
    have d : (2 * ((2 ^ e : Nat) : Int) * (2 / (2 * ((2 ^ e : Nat) : Int)))) % 2 = 0 := by rw [Int.mul_assoc, Int.mul_emod_right]
    omega
theorem Gp.sz {p : Int} {e : Nat} (h : Gp p e) : Sz 40 p := by
  have a := h.p3
  have b := h.lt
  unfold Sz; omega
theorem cs_pow {e : Nat} (he : e ≤ 10) : p_check_size ((2 ^ e : Nat) : Int) = .ok () := by rw [cs_eq, sz_pow e (by omega), if_pos rfl]
theorem cprime_ok {p : Int} {e : Nat} (h : Gp p e) : p_check_prime p ((2 ^ e : Nat) : Int) = .ok () := by
  have a := h.p3
  have b := h.lt
  have np := h.np
  have nl := h.nl
  have sh : ishl 1 32 = .ok 4294967296 := ishl_ok (by decide +kernel)
  have m2 : imul 2 ((2 ^ e : Nat) : Int) = .ok (2 * ((2 ^ e : Nat) : Int)) := imul_ok (mul_ok (n := 2) (m := 20) (Sz.lit (by decide)) (Sz_nat (by omega)) (by decide))
  have im : imod p (2 * ((2 ^ e : Nat) : Int)) = .ok 1 := by rw [imod_ok (by omega), h.one]
  unfold p_check_prime
  simp only [sh, m2, im, rb_ok, isprime_ok (by omega : p < 4294967296), prB_t h.pr, decide_eq_false (by omega : ¬ p < 3), decide_eq_false (by omega : ¬ p ≥ 4294967296), ro_ok2, decide_true, Bool.not_true, Bool.or_self, on_ok, Bool.false_eq_true, if_false, rf_nx]
theorem cprime_ex {p : Int} {e : Nat} (he : e ≤ 8) (h : p < 3 ∨ 4294967296 ≤ p ∨ p % (2 * ((2 ^ e : Nat) : Int)) ≠ 1 ∨ ¬ Pr p) : p_check_prime p ((2 ^ e : Nat) : Int) = .exc .notThere := by
  have np : 0 < 2 ^ e := Nat.two_pow_pos e
  have nl : 2 ^ e ≤ 256 := Nat.pow_le_pow_right (n := 2) (by decide) he
  have sh : ishl 1 32 = .ok 4294967296 := ishl_ok (by decide +kernel)
  have m2 : imul 2 ((2 ^ e : Nat) : Int) = .ok (2 * ((2 ^ e : Nat) : Int)) := imul_ok (mul_ok (n := 2) (m := 20) (Sz.lit (by decide)) (Sz_nat (by omega)) (by decide))
  have im : imod p (2 * ((2 ^ e : Nat) : Int)) = .ok (p % (2 * ((2 ^ e : Nat) : Int))) := imod_ok (by omega)
  unfold p_check_prime
  simp only [sh, m2, im, rb_ok]
  by_cases c1 : p < 3
  · simp only [decide_eq_true c1, ro_ok, if_true, on_ok, rf_ex]
  · by_cases c2 : p ≥ 4294967296
    · simp only [decide_eq_false c1, decide_eq_true c2, ro_ok, if_true, on_ok, rf_ex, Bool.false_eq_true, if_false]
    · by_cases c3 : p % (2 * ((2 ^ e : Nat) : Int)) = 1
      · have c4 : ¬ Pr p := by
          rcases h with h | h | h | h
          · exact absurd h c1
          · exact absurd h c2
          · exact absurd c3 h
          · exact h
        simp only [decide_eq_false c1, decide_eq_false c2, decide_eq_true c3, isprime_ok (by omega : p < 4294967296), prB_f c4, ro_ok, if_true, on_ok, rf_ex, Bool.false_eq_true, if_false, Bool.not_true, Bool.not_false, rb_ok]
      · simp only [decide_eq_false c1, decide_eq_false c2, decide_eq_false c3, ro_ok, if_true, on_ok, rf_ex, Bool.false_eq_true, if_false, Bool.not_false]
/-! the root -/
theorem root_ok {p : Int} {e : Nat} (h : Gp p e) : ∃ w : Int, p_find_root p ((2 ^ e : Nat) : Int) = .ok w ∧ Rt p w e ∧ 1 ≤ w ∧ w < p ∧ ∀ i, i < 2 ^ e → w ≤ w ^ (2 * i + 1) % p := by
  have p3 := h.p3
  have hl := h.lt
  have np := h.np
  have nl := h.nl
  have hmul := h.mul
  have zp8 : Sz 8000 p := h.sz.mono (by decide)
  have im : ∀ x, imod x p = .ok (x % p) := fun x => imod_ok (by omega)
  have md : ∀ x : Int, 0 ≤ x % p ∧ x % p < p := fun x => ⟨Int.emod_nonneg _ (by omega), Int.emod_lt_of_pos _ (by omega)⟩
  obtain ⟨c, hc⟩ : ∃ c : Nat, p / (2 * ((2 ^ e : Nat) : Int)) = c := ⟨(p / (2 * ((2 ^ e : Nat) : Int))).toNat, by
    have := Int.ediv_nonneg (show 0 ≤ p by omega) (show (0 : Int) ≤ 2 * ((2 ^ e : Nat) : Int) by omega)
    omega⟩
  rw [hc] at hmul
  have hm : p = 2 * ((2 ^ e * c : Nat) : Int) + 1 := by rw [hmul, Int.natCast_mul, Int.mul_assoc]
  have d2 : idiv (p - 1) 2 = .ok ((2 ^ e * c : Nat) : Int) := by
    rw [idiv_ok (lit_div (by decide) (by decide +kernel))]
    congr 1; omega
  have m2 : imul 2 ((2 ^ e : Nat) : Int) = .ok (2 * ((2 ^ e : Nat) : Int)) := imul_ok (mul_ok (n := 2) (m := 20) (Sz.lit (by decide)) (Sz_nat (by omega)) (by decide))
  have d3 : idiv (p - 1) (2 * ((2 ^ e : Nat) : Int)) = .ok (c : Int) := by
    rw [idiv_ok (div_ok (by omega) (Sz.mono (n := 20) (by unfold Sz; omega) (by decide)))]
    congr 1
    rw [hmul, Int.add_sub_cancel]
    exact Int.mul_ediv_cancel_left _ (by omega)
  have pw : ∀ (x : Int) (k : Nat), p_power x (k : Int) p = .ok (x ^ k % p) := fun x k => power_ok x k (by omega) zp8
  obtain ⟨b, b2, bp, hb⟩ := nonres h.pr p3 (2 ^ e * c) hm
  have rg : irange (((2 ^ e : Nat) : Int) - 1) = .ok (rng 0 (2 ^ e - 1)) := by
    rw [show ((2 ^ e : Nat) : Int) - 1 = ((2 ^ e - 1 : Nat) : Int) by omega]
    exact irange_ok (by omega)
  unfold p_find_root
  simp only [cs_pow (e := e) (by have := h.he; omega), cprime_ok h, on_ok, d2, rb_ok, pw]
  refine while_gen (fun t => ∃ w : Int, tRun t = .ok w ∧ Rt p w e ∧ 1 ≤ w ∧ w < p ∧ ∀ i, i < 2 ^ e → w ≤ w ^ (2 * i + 1) % p) (fun s => 2 ≤ s ∧ s ≤ b) (fun s => (p - s).toNat) ⟨Int.le_refl _, b2⟩ (fun s hs => ?_)
  by_cases hq : s ^ (2 ^ e * c) % p = p - 1
  · left
    refine ⟨by rw [decide_eq_true hq]; rfl, ?_⟩
    simp only [m2, d3, rb_ok, pw, on_ok, rg]
    have rt0 : Rt p (s ^ c % p) e := ⟨h.pr, p3, by
      rw [pow_emod, ← Int.pow_mul, Nat.mul_comm, ← Int.emod_emod, hq]
      exact emod_of_dvd ⟨1, by omega⟩⟩
    have r0 := md (s ^ c)
    generalize s ^ c % p = r at rt0 r0
    have mm : ∀ {x y : Int}, 0 ≤ x ∧ x < p → 0 ≤ y ∧ y < p → imul x y = .ok (x * y) := fun {x y} h1 h2 => imul_ok (mul_ok (Sz.of_range h.sz h1.1 (by omega)) (Sz.of_range h.sz h2.1 (by omega)) (by decide))
    simp only [mm r0 r0, rb_ok, im, on_ok]
    refine for_idx (fun t => ∃ w : Int, tRun t = .ok w ∧ Rt p w e ∧ 1 ≤ w ∧ w < p ∧ ∀ i, i < 2 ^ e → w ≤ w ^ (2 * i + 1) % p)
      (fun i s => s.1 = r ^ (2 * i + 1) % p ∧ (∃ j, j ≤ i ∧ s.2 = r ^ (2 * j + 1) % p) ∧ ∀ j, j ≤ i → s.2 ≤ r ^ (2 * j + 1) % p) ⟨?_, ⟨0, Nat.le_refl _, ?_⟩, fun j hj => ?_⟩ (fun i x s hx hs => ?_) (fun s hs => ?_)
    · show r = r ^ 1 % p
      rw [Int.pow_succ, Int.pow_zero, Int.one_mul, Int.emod_eq_of_lt r0.1 r0.2]
    · show r = r ^ 1 % p
      rw [Int.pow_succ, Int.pow_zero, Int.one_mul, Int.emod_eq_of_lt r0.1 r0.2]
    · obtain rfl : j = 0 := by omega
      show r ≤ r ^ 1 % p
      rw [Int.pow_succ, Int.pow_zero, Int.one_mul, Int.emod_eq_of_lt r0.1 r0.2]
      exact Int.le_refl _
    · obtain ⟨y, l⟩ := s
      obtain ⟨h1, ⟨j0, hj0, h2⟩, h3⟩ := hs
      have h1 : y = r ^ (2 * i + 1) % p := h1
      have h2 : l = r ^ (2 * j0 + 1) % p := h2
      have h3 : ∀ j, j ≤ i → l ≤ r ^ (2 * j + 1) % p := h3
      have yr : 0 ≤ y ∧ y < p := by rw [h1]; exact md _
      have st : y * (r * r % p) % p = r ^ (2 * (i + 1) + 1) % p := by
        rw [mul_emod_r, h1, mul_emod_l, ← Int.mul_assoc, ← pw_next]
      refine ⟨(r ^ (2 * (i + 1) + 1) % p, imin2 l (r ^ (2 * (i + 1) + 1) % p)), .inl ?_, rfl, ?_, ?_⟩
      · simp only [mm yr (md (r * r)), rb_ok, im, on_ok, st]
      · unfold imin2
        show ∃ j, j ≤ i + 1 ∧ (if r ^ (2 * (i + 1) + 1) % p < l then r ^ (2 * (i + 1) + 1) % p else l) = _
        split
        · exact ⟨i + 1, Nat.le_refl _, rfl⟩
        · exact ⟨j0, by omega, h2⟩
      · intro j hj
        show imin2 l (r ^ (2 * (i + 1) + 1) % p) ≤ _
        unfold imin2
        by_cases hji : j ≤ i
        · have := h3 j hji
          split <;> omega
        · obtain rfl : j = i + 1 := by omega
          split <;> omega
    · obtain ⟨h1, ⟨j0, hj0, h2⟩, h3⟩ := hs
      rw [rng_len] at hj0 h3
      have rt := rt0.odd (o := 2 * j0 + 1) (by omega)
      refine ⟨s.2, rfl, ?_, ?_, ?_, fun i hi => ?_⟩
      · rw [h2]; exact rt
      · have a := md (r ^ (2 * j0 + 1))
        rw [← h2] at a rt
        by_cases z : s.2 = 0
        · exfalso
          have q := rt.pw
          rw [z, Int.zero_pow (by omega)] at q
          have := Int.le_of_dvd (by decide) (dvd_of_emod q)
          omega
        · omega
      · rw [h2]; exact (md _).2
      · obtain ⟨j, k, hj, hk⟩ := mod_odd np ((2 * j0 + 1) * (2 * i + 1)) (by rw [Nat.mul_mod, (by omega : (2 * j0 + 1) % 2 = 1), (by omega : (2 * i + 1) % 2 = 1)])
        have e1 : s.2 ^ (2 * i + 1) % p = r ^ (2 * j + 1) % p := by
          rw [h2, pow_emod, ← Int.pow_mul, hk, Int.pow_add, Int.pow_mul]
          rw [mul_cong (pow_cong rt0.full k) rfl, Int.one_pow, Int.one_mul]
        rw [e1]
        exact h3 j (by omega)
  · right
    refine ⟨by rw [decide_eq_false hq]; rfl, ?_⟩
    refine .nx ⟨⟨by omega, ?_⟩, by omega⟩
    by_cases c : s = b
    · exact absurd (c ▸ hb) hq
    · omega
/-! transforms -/
theorem tab_succ {n : Nat} {f : Nat → Int} : tab (n + 1) f = tab n f ++ [f n] := by
  unfold tab
  rw [List.range_succ, List.map_append]; rfl
theorem hv_fold {p x : Int} (a : List Int) : a.reverse.foldl (fun v c => (v * x + c) % p) 0 = hv p x a := by
  rw [List.foldl_reverse]
  induction a with
  | nil => rfl
  | cons c cs ih => show (_ * x + c) % p = _; rw [ih]; rfl
section
variable {p w : Int} {e : Nat} {a : List Int}
theorem horner_ok (h : Gp p e) {x : Int} (hx : 0 ≤ x ∧ x < p) {β ρ : Type} {f : Int → Int → TF Int Int ρ} (hf : ∀ c v : Int, 0 ≤ v ∧ v < p → f c v = .nx ((v * x + c) % p)) : (tFor a.reverse 0 f : TF β Int ρ) = .nx (hv p x a) := by
  have p3 := h.p3
  rw [tFor_fold (fun v c => (v * x + c) % p) (fun _ v => 0 ≤ v ∧ v < p) ⟨Int.le_refl _, by omega⟩ fun i c v _ hv => ⟨.inl (hf c v hv), Int.emod_nonneg _ (by omega), Int.emod_lt_of_pos _ (by omega)⟩, hv_fold]
theorem transform_ok (h : Gp p e) (hl : a.length = 2 ^ e) (hr : p_find_root p ((2 ^ e : Nat) : Int) = .ok w) (w0 : 0 ≤ w ∧ w < p) : p_transform a p = .ok (trf p w a) := by
  have p3 := h.p3
  have nl := h.nl
  have il : ilen a = ((2 ^ e : Nat) : Int) := by unfold ilen; rw [hl]
  have im : ∀ x, imod x p = .ok (x % p) := fun x => imod_ok (by omega)
  have md : ∀ x : Int, 0 ≤ x % p ∧ x % p < p := fun x => ⟨Int.emod_nonneg _ (by omega), Int.emod_lt_of_pos _ (by omega)⟩
  have mm : ∀ {x y : Int}, 0 ≤ x ∧ x < p → 0 ≤ y ∧ y < p → imul x y = .ok (x * y) := fun {x y} h1 h2 => imul_ok (mul_ok (Sz.of_range h.sz h1.1 (by omega)) (Sz.of_range h.sz h2.1 (by omega)) (by decide))
  have rg : irange ((2 ^ e : Nat) : Int) = .ok (rng 0 (2 ^ e)) := irange_ok (by omega)
  unfold p_transform
  simp only [il, hr, on_ok, mm w0 w0, rb_ok, im, rg]
  rw [tFor_st (fun i => (tab i fun i => hv p (w ^ (2 * i + 1) % p) a, w ^ (2 * i + 1) % p)) ?_ ?_]
  · rw [rng_len, ← hl]; rfl
  · refine Prod.ext rfl ?_
    show w = w ^ 1 % p
    rw [Int.pow_succ, Int.pow_zero, Int.one_mul, Int.emod_eq_of_lt w0.1 w0.2]
  · intro i x hx
    left
    obtain ⟨hi, rfl⟩ := rng_some hx
    have pr := md (w ^ (2 * i + 1))
    rw [horner_ok h pr fun c v hv => by simp only [mm hv pr, rb_ok, im, on_ok]]
    have ap : ∀ v : Int, lapp (tab i fun i => hv p (w ^ (2 * i + 1) % p) a) v = .ok ((tab i fun i => hv p (w ^ (2 * i + 1) % p) a) ++ [v]) := fun v => lapp_ok (by simp; omega)
    have st : w ^ (2 * i + 1) % p * (w * w % p) % p = w ^ (2 * (i + 1) + 1) % p := by
      rw [mul_emod_r, mul_emod_l, ← Int.mul_assoc, ← pw_next]
    simp only [tb_nx, ap, on_ok, mm pr (md (w * w)), rb_ok, im, st, tab_succ]
theorem lpower_ok (h : Gp p e) (w0 : 0 ≤ w ∧ w < p) {k : Nat} (hk : k ≤ 1000) (h1 : 1 ≤ k) : p__law_power w (k : Int) p = .ok (w ^ k % p) := by
  have p3 := h.p3
  have im : ∀ x, imod x p = .ok (x % p) := fun x => imod_ok (by omega)
  have rg : irange (k : Int) = .ok (rng 0 k) := irange_ok (by omega)
  have md : ∀ x : Int, 0 ≤ x % p ∧ x % p < p := fun x => ⟨Int.emod_nonneg _ (by omega), Int.emod_lt_of_pos _ (by omega)⟩
  have mm : ∀ {x y : Int}, 0 ≤ x ∧ x < p → 0 ≤ y ∧ y < p → imul x y = .ok (x * y) := fun {x y} h1 h2 => imul_ok (mul_ok (Sz.of_range h.sz h1.1 (by omega)) (Sz.of_range h.sz h2.1 (by omega)) (by decide))
  unfold p__law_power
  simp only [rg, on_ok]
  rw [tFor_st (fun i => if i = 0 then 1 else w ^ i % p) ?_ ?_]
  · rw [rng_len, if_neg (by omega)]; rfl
  · rfl
  · intro i x hx
    left
    by_cases c : i = 0
    · subst c
      rw [if_pos rfl, mm ⟨by decide, by omega⟩ w0, if_neg (by decide)]
      simp only [rb_ok, im, on_ok]
      rw [Int.pow_succ, Int.pow_zero]
    · rw [if_neg c, mm (md _) w0, if_neg (by omega)]
      simp only [rb_ok, im, on_ok]
      rw [mul_emod_l, Int.pow_succ]
theorem values_ok (h : Gp p e) (hl : a.length = 2 ^ e) (w0 : 0 ≤ w ∧ w < p) : p__law_values a w p = .ok (trf p w a) := by
  have p3 := h.p3
  have nl := h.nl
  have il : ilen a = ((2 ^ e : Nat) : Int) := by unfold ilen; rw [hl]
  have im : ∀ x, imod x p = .ok (x % p) := fun x => imod_ok (by omega)
  have md : ∀ x : Int, 0 ≤ x % p ∧ x % p < p := fun x => ⟨Int.emod_nonneg _ (by omega), Int.emod_lt_of_pos _ (by omega)⟩
  have mm : ∀ {x y : Int}, 0 ≤ x ∧ x < p → 0 ≤ y ∧ y < p → imul x y = .ok (x * y) := fun {x y} h1 h2 => imul_ok (mul_ok (Sz.of_range h.sz h1.1 (by omega)) (Sz.of_range h.sz h2.1 (by omega)) (by decide))
  have rg : irange ((2 ^ e : Nat) : Int) = .ok (rng 0 (2 ^ e)) := irange_ok (by omega)
  unfold p__law_values
  simp only [il, on_ok, rg]
  rw [tFor_st (fun i => tab i fun i => hv p (w ^ (2 * i + 1) % p) a) ?_ ?_]
  · rw [rng_len, ← hl]; rfl
  · rfl
  · intro i x hx
    left
    obtain ⟨hi, rfl⟩ := rng_some hx
    have m2 : imul 2 (0 + (i : Int)) = .ok (2 * (i : Int)) := by
      rw [Int.zero_add]
      exact imul_ok (mul_ok (n := 2) (m := 20) (Sz.lit (by decide)) (Sz_nat (by omega)) (by decide))
    have lp : p__law_power w (2 * (i : Int) + 1) p = .ok (w ^ (2 * i + 1) % p) := by
      rw [show 2 * (i : Int) + 1 = ((2 * i + 1 : Nat) : Int) by omega]
      exact lpower_ok h w0 (by omega) (by omega)
    have pr := md (w ^ (2 * i + 1))
    have ap : ∀ v : Int, lapp (tab i fun i => hv p (w ^ (2 * i + 1) % p) a) v = .ok ((tab i fun i => hv p (w ^ (2 * i + 1) % p) a) ++ [v]) := fun v => lapp_ok (by simp; omega)
    simp only [m2, rb_ok, lp, on_ok]
    rw [horner_ok h pr fun c v hv => by simp only [mm hv pr, rb_ok, im, on_ok]]
    simp only [tb_nx, ap, on_ok, tab_succ]
theorem inverse_pr (h : Gp p e) {x : Int} (hx : ¬ p ∣ x) : ∃ v, p_inverse x p = .ok v ∧ 0 ≤ v ∧ v < p ∧ (x * v) % p = 1 % p := by
  have p3 := h.p3
  have g := pr_cop h.pr hx
  have g2 := ngcd_mod (a := x) (k := p) (by omega)
  rcases inverse_gen (a := x) (k := p) (by omega) (h.sz.mono (by decide)) with ⟨_, v, hv, v0, v1, hc⟩ | ⟨hg, _⟩
  · refine ⟨v, hv, v0, v1, ?_⟩
    rw [Int.mul_comm]
    exact emod_of_dvd (Int.dvd_of_emod_eq_zero hc)
  · rw [g2, Nat.gcd_comm] at hg
    exact absurd g hg
theorem back_ok (h : Gp p e) {v : List Int} (hl : v.length = 2 ^ e) (hr : p_find_root p ((2 ^ e : Nat) : Int) = .ok w) (rt : Rt p w e) (zv : ∀ x ∈ v, 0 ≤ x ∧ x < p) : ∃ u s : Int, (w * u) % p = 1 % p ∧ (((2 ^ e : Nat) : Int) * s) % p = 1 % p ∧ p_transform_back v p = .ok (bkf p u s v) := by
  have p3 := h.p3
  have nl := h.nl
  have np := h.np
  have il : ilen v = ((2 ^ e : Nat) : Int) := by unfold ilen; rw [hl]
  have im : ∀ x, imod x p = .ok (x % p) := fun x => imod_ok (by omega)
  have md : ∀ x : Int, 0 ≤ x % p ∧ x % p < p := fun x => ⟨Int.emod_nonneg _ (by omega), Int.emod_lt_of_pos _ (by omega)⟩
  have mm : ∀ {x y : Int}, 0 ≤ x ∧ x < p → 0 ≤ y ∧ y < p → imul x y = .ok (x * y) := fun {x y} h1 h2 => imul_ok (mul_ok (Sz.of_range h.sz h1.1 (by omega)) (Sz.of_range h.sz h2.1 (by omega)) (by decide))
  have pw : ∀ (x : Int) (k : Nat), p_power x (k : Int) p = .ok (x ^ k % p) := fun x k => power_ok x k (by omega) (h.sz.mono (by decide))
  obtain ⟨u, hu, u0, u1, hwu⟩ := inverse_pr h (x := w) rt.ndvd
  have nd : ¬ p ∣ ((2 ^ e : Nat) : Int) := not_dvd (by omega) (by
    have a := h.mul
    have b : 1 ≤ p / (2 * ((2 ^ e : Nat) : Int)) := by
      by_cases c : 1 ≤ p / (2 * ((2 ^ e : Nat) : Int))
      · exact c
      · exfalso
        have : 2 * ((2 ^ e : Nat) : Int) * (p / (2 * ((2 ^ e : Nat) : Int))) ≤ 2 * ((2 ^ e : Nat) : Int) * 0 := Int.mul_le_mul_of_nonneg_left (by omega) (by omega)
        omega
    have c : 2 * ((2 ^ e : Nat) : Int) * 1 ≤ 2 * ((2 ^ e : Nat) : Int) * (p / (2 * ((2 ^ e : Nat) : Int))) := Int.mul_le_mul_of_nonneg_left b (by omega)
    omega)
  obtain ⟨s, hs, s0, s1, hns⟩ := inverse_pr h (x := ((2 ^ e : Nat) : Int)) nd
  refine ⟨u, s, hwu, hns, ?_⟩
  have rg : irange ((2 ^ e : Nat) : Int) = .ok (rng 0 (2 ^ e)) := irange_ok (by omega)
  unfold p_transform_back
  simp only [il, on_ok, hr, rb_ok, hu, hs, rg]
  rw [tFor_st (fun k => tab k fun k => (sm v.length fun i => at0 v i * u ^ (k * (2 * i + 1))) % p * s % p) ?_ ?_]
  · rw [rng_len, tb_nx, rn_rt, ← hl]; rfl
  · rfl
  · intro k x hx
    left
    obtain ⟨hk, rfl⟩ := rng_some hx
    have m2 : imul 2 (0 + (k : Int)) = .ok ((2 * k : Nat) : Int) := by
      rw [Int.zero_add, imul_ok (mul_ok (n := 2) (m := 20) (Sz.lit (by decide)) (Sz_nat (by omega)) (by decide))]
      congr 1
    simp only [m2, rb_ok, pw, on_ok]
    rw [Int.zero_add, pw, on_ok]
    rw [tFor_st (fun i => (u ^ (k * (2 * i + 1)) % p, (sm i fun i => at0 v i * u ^ (k * (2 * i + 1))) % p)) ?_ ?_]
    · have ap : ∀ x : Int, lapp (tab k fun k => (sm v.length fun i => at0 v i * u ^ (k * (2 * i + 1))) % p * s % p) x = .ok ((tab k fun k => (sm v.length fun i => at0 v i * u ^ (k * (2 * i + 1))) % p * s % p) ++ [x]) := fun x => lapp_ok (by simp; omega)
      simp only [tb_nx, mm (md _) ⟨s0, s1⟩, rb_ok, im, ap, on_ok, tab_succ]
    · refine Prod.ext ?_ ?_
      · show u ^ k % p = u ^ (k * 1) % p
        rw [Nat.mul_one]
      · show (0 : Int) = 0 % p
        simp
    · intro i y hy
      left
      have hi := (List.getElem?_eq_some_iff.mp hy).1
      have e1 := at0_some hy
      have ym := zv y (List.mem_of_getElem? hy)
      have st : u ^ (k * (2 * i + 1)) % p * (u ^ (2 * k) % p) % p = u ^ (k * (2 * (i + 1) + 1)) % p := by
        rw [mul_emod_r, mul_emod_l, ← Int.pow_add]
        congr 2
        rw [show 2 * (i + 1) + 1 = (2 * i + 1) + 2 by omega, Nat.mul_add k (2 * i + 1) 2, Nat.mul_comm k 2]
      have st2 : ((sm i fun i => at0 v i * u ^ (k * (2 * i + 1))) % p + y * (u ^ (k * (2 * i + 1)) % p)) % p = (sm (i + 1) fun i => at0 v i * u ^ (k * (2 * i + 1))) % p := by
        show _ = (sm i _ + at0 v i * u ^ (k * (2 * i + 1))) % p
        rw [e1]
        refine add_cong (Int.emod_emod ..) ?_
        rw [mul_emod_r]
      simp only [mm ym (md _), rb_ok, im, on_ok, mm (md _) (md _), st, st2]
end
/-! the least primes of the kind -/
noncomputable def psB (n : Nat) (m : Int) : Bool := decide (m % (2 * (n : Int)) = 1) && prB m
theorem psB_iff {n : Nat} {m : Int} : psB n m = true ↔ m % (2 * (n : Int)) = 1 ∧ Pr m := by
  unfold psB
  rw [Bool.and_eq_true, decide_eq_true_iff, prB_true]
noncomputable def fb (n : Nat) (A B : Int) : List Int := (rng A (B - A).toNat).filter (psB n)
theorem rng_add {lo : Int} {k : Nat} : ∀ {m : Nat}, rng lo (k + m) = rng lo k ++ rng (lo + k) m
  | 0 => by rw [Nat.add_zero, rng_zero, List.append_nil]
  | m + 1 => by
    have e1 : ∀ (l : Int) (j : Nat), rng l (j + 1) = rng l j ++ [l + j] := fun l j => by
      unfold rng
      rw [List.range_succ, List.map_append]; rfl
    rw [← Nat.add_assoc, e1, e1, rng_add, List.append_assoc, show lo + ((k + m : Nat) : Int) = lo + k + m by omega]
theorem fb_split {n : Nat} {A B C : Int} (h1 : A ≤ B) (h2 : B ≤ C) : fb n A C = fb n A B ++ fb n B C := by
  unfold fb
  rw [← List.filter_append]
  congr 1
  rw [show (C - A).toNat = (B - A).toNat + (C - B).toNat by omega, rng_add, show A + (((B - A).toNat : Nat) : Int) = B by omega]
theorem fb_mem {n : Nat} {A B m : Int} (h : m ∈ fb n A B) : A ≤ m ∧ m < B ∧ m % (2 * (n : Int)) = 1 ∧ Pr m := by
  obtain ⟨h1, h2⟩ := List.mem_filter.mp h
  have := rng_mem.mp h1
  exact ⟨this.1, by omega, psB_iff.mp h2⟩
theorem fb_in {n : Nat} {A B m : Int} (h1 : A ≤ m) (h2 : m < B) (h3 : m % (2 * (n : Int)) = 1) (h4 : Pr m) : m ∈ fb n A B := List.mem_filter.mpr ⟨rng_mem.mpr ⟨h1, by omega⟩, psB_iff.mpr ⟨h3, h4⟩⟩
theorem fb_none {n : Nat} {A B : Int} (h : ∀ m, A ≤ m → m < B → ¬ (m % (2 * (n : Int)) = 1 ∧ Pr m)) : fb n A B = [] := by
  refine List.filter_eq_nil_iff.mpr fun m hm q => ?_
  have := rng_mem.mp hm
  exact h m this.1 (by omega) (psB_iff.mp q)
theorem len_sub : ∀ {l m : List Int}, l.Nodup → (∀ x ∈ l, x ∈ m) → l.length ≤ m.length
  | [], m, _, _ => Nat.zero_le _
  | x :: l, m, hn, hs => by
    obtain ⟨n1, n2⟩ := List.nodup_cons.mp hn
    have hx := hs x List.mem_cons_self
    have := len_sub (l := l) (m := m.erase x) n2 (fun y hy => by
      have ne : y ≠ x := fun q => n1 (q ▸ hy)
      exact (List.mem_erase_of_ne ne).mpr (hs y (List.mem_cons_of_mem _ hy)))
    rw [List.length_erase_of_mem hx] at this
    have : 0 < m.length := List.length_pos_of_mem hx
    rw [List.length_cons]; omega
theorem fb_unit {n : Nat} {B : Int} : fb n B (B + 1) = if psB n B then [B] else [] := by
  unfold fb
  rw [show (B + 1 - B).toNat = 1 by omega]
  show (List.filter (psB n) [B + ((0 : Nat) : Int)]) = _
  rw [show B + ((0 : Nat) : Int) = B by omega]
  cases hp : psB n B <;> simp [hp]
theorem fb_one {n : Nat} {B : Int} (hb : B % (2 * (n : Int)) = 1) (hn : 0 < n) : fb n B (B + 2 * n) = if prB B then [B] else [] := by
  have h1 : fb n B (B + 2 * n) = fb n B (B + 1) ++ fb n (B + 1) (B + 2 * n) := fb_split (by omega) (by omega)
  rw [h1, fb_none (A := B + 1) fun m a b q => ?_, List.append_nil]
  · unfold fb
    rw [show (B + 1 - B).toNat = 1 by omega]
    show (List.filter (psB n) [B + ((0 : Nat) : Int)]) = _
    rw [show B + ((0 : Nat) : Int) = B by omega]
    unfold psB
    cases hp : prB B <;> simp [hb, hp]
  · have e1 : (m - B) % (2 * (n : Int)) = 0 := by rw [Int.sub_emod, q.1, hb]; simp
    rw [Int.emod_eq_of_lt (by omega) (by omega)] at e1
    omega
/-- there are so many of the kind from L on -/
def Many (n : Nat) (L : Int) (c : Nat) : Prop := ∃ ws : List Int, ws.Nodup ∧ c ≤ ws.length ∧ ∀ m ∈ ws, L ≤ m ∧ m < L + 199000 ∧ m % (2 * (n : Int)) = 1 ∧ Pr m
theorem Many.len {n : Nat} {L B : Int} {c : Nat} (h : Many n L c) (hb : L + 199000 ≤ B) : c ≤ (fb n L B).length := by
  obtain ⟨ws, h1, h2, h3⟩ := h
  refine Nat.le_trans h2 (len_sub h1 fun m hm => ?_)
  obtain ⟨a, b, c, d⟩ := h3 m hm
  exact fb_in a (by omega) c d
theorem fb_same {n : Nat} {A B C : Int} {c : Nat} (h1 : A ≤ B) (h2 : A ≤ C) (e1 : (fb n A B).length = c) (e2 : (fb n A C).length = c) : fb n A B = fb n A C := by
  have key : ∀ {B C : Int}, A ≤ B → B ≤ C → (fb n A B).length = c → (fb n A C).length = c → fb n A B = fb n A C := fun {B C} a b x y => by
    have s := fb_split (n := n) a b
    rw [s, List.length_append] at y
    have : fb n B C = [] := List.length_eq_zero_iff.mp (by omega)
    rw [s, this, List.append_nil]
  rcases Int.le_total B C with h | h
  · exact key h1 h e1 e2
  · exact (key h2 h e2 e1).symm
theorem lprime_ok {n : Int} (h : n ≤ 1600000000) : p__law_is_prime n = .ok (prB n) := by
  have r1 : irange2 2 40000 = .ok (rng 2 39998) := irange2_ok (by decide) (by decide) (by decide) (by decide)
  unfold p__law_is_prime
  by_cases h2 : n < 2
  · rw [if_pos (decide_eq_true h2), rn_rt, prB_f fun q => by have := q.1; omega]
  · rw [if_neg (by simpa using h2), r1, on_ok]
    refine for_gen (fun r => tRun r = .ok (prB n)) (fun i s => ∀ d : Int, 2 ≤ d → d < 2 + i → n % d ≠ 0) (fun d h1 h2 => by omega) (fun i x s hx hs => ?_) (fun s hs => ?_)
    · obtain ⟨hi, rfl⟩ := rng_some hx
      have ms : imul (2 + (i : Int)) (2 + (i : Int)) = .ok ((2 + (i : Int)) * (2 + (i : Int))) := imul_ok (mul_ok (n := 20) (m := 20) (by unfold Sz; omega) (by unfold Sz; omega) (by decide))
      have im : imod n (2 + (i : Int)) = .ok (n % (2 + (i : Int))) := imod_ok (by omega)
      simp only [ms, im, rb_ok, on_ok]
      by_cases hq : (2 + (i : Int)) * (2 + (i : Int)) > n
      · rw [if_pos (decide_eq_true hq)]
        refine .rt ?_
        rw [rn_rt, prB_t]
        refine ⟨by omega, fun d h1 h2 => hs d h1 ?_⟩
        by_cases c : d < 2 + i
        · exact c
        · exfalso
          have := sq_le (a := 2 + (i : Int)) (by omega) (by omega : (2 + (i : Int)) ≤ d)
          omega
      · rw [if_neg (by simpa using hq)]
        by_cases hz : n % (2 + (i : Int)) = 0
        · rw [if_pos (decide_eq_true hz)]
          refine .rt ?_
          rw [rn_rt, prB_f fun q => q.2 _ (by omega) (by omega) hz]
        · rw [if_neg (by simpa using hz)]
          refine .nx fun d h1 h2 => ?_
          by_cases c : d < 2 + i
          · exact hs d h1 c
          · have : d = 2 + i := by omega
            rw [this]; exact hz
    · rw [rng_len] at hs
      rw [rn_rt, prB_t]
      refine ⟨by omega, fun d h1 h2 => hs d h1 ?_⟩
      by_cases c : d < 2 + (39998 : Nat)
      · exact c
      · exfalso
        have := sq_le (a := 40001) (by decide) (by omega : (40001 : Int) ≤ d + 1)
        have := sq_le (a := 40000) (by decide) (by omega : (40000 : Int) ≤ d)
        by_cases c2 : d = 40000
        · subst c2
          have : n = 1600000000 := by omega
          subst this
          exact hs 2 (by decide) (by decide) (by decide)
        · have := sq_le (a := 40001) (by decide) (by omega : (40001 : Int) ≤ d)
          omega
theorem lprimes_ok {n c : Nat} {least : Int} (hn : 0 < n) (hn2 : n ≤ 256) (hc : c ≤ 8) (hl : least ≤ 1073741824) (hm : Many n (imax2 least 2) c) : ∃ N, imax2 least 2 ≤ N ∧ p__law_primes n c least = .ok (fb n (imax2 least 2) N) ∧ (fb n (imax2 least 2) N).length = c := by
  have rg : irange 200000 = .ok (rng 0 200000) := irange_ok (n := 200000) (by decide)
  have m2 : imul 2 (n : Int) = .ok (2 * (n : Int)) := imul_ok (mul_ok (n := 2) (m := 20) (Sz.lit (by decide)) (Sz_nat (by omega)) (by decide))
  have L1 : 2 ≤ imax2 least 2 ∧ imax2 least 2 ≤ 1073741824 := by unfold imax2; split <;> omega
  unfold p__law_primes
  simp only [on_ok, rg]
  generalize imax2 least 2 = L at *
  refine for_gen (fun t => ∃ N, L ≤ N ∧ tRun t = .ok (fb n L N) ∧ (fb n L N).length = c) (fun i s => s = (fb n L (L + i), L + i) ∧ (fb n L (L + i)).length ≤ c) ⟨?_, ?_⟩ (fun i x s hx hs => ?_) (fun s hs => ?_)
  · have : fb n L (L + ((0 : Nat) : Int)) = [] := fb_none fun m a b => by omega
    rw [this]
    refine Prod.ext rfl ?_
    show L = L + ((0 : Nat) : Int)
    omega
  · have : fb n L (L + ((0 : Nat) : Int)) = [] := fb_none fun m a b => by omega
    rw [this]; exact Nat.zero_le _
  · obtain ⟨rfl, hle⟩ := hs
    obtain ⟨hi, rfl⟩ := rng_some hx
    by_cases hq : (fb n L (L + i)).length = c
    · rw [if_pos (decide_eq_true (show ilen (fb n L (L + i)) = (c : Int) by unfold ilen; omega))]
      exact .bk ⟨L + i, by omega, rfl, hq⟩
    · rw [if_neg (by rw [decide_eq_false (show ¬ ilen (fb n L (L + i)) = (c : Int) by unfold ilen; omega)]; decide)]
      have im : imod (L + (i : Int) - 1) (2 * (n : Int)) = .ok ((L + (i : Int) - 1) % (2 * (n : Int))) := imod_ok (by omega)
      have lp := lprime_ok (n := L + (i : Int)) (by omega)
      have iff1 : (L + (i : Int) - 1) % (2 * (n : Int)) = 0 ↔ (L + (i : Int)) % (2 * (n : Int)) = 1 := by
        constructor
        · intro z
          rw [show L + (i : Int) = (L + i - 1) + 1 by omega, Int.add_emod, z, Int.zero_add, Int.emod_emod, Int.emod_eq_of_lt (by decide) (by omega)]
        · intro z
          rw [Int.sub_emod, z, Int.emod_eq_of_lt (a := 1) (by decide) (by omega)]; simp
      have st : fb n L (L + ((i + 1 : Nat) : Int)) = fb n L (L + i) ++ (if psB n (L + i) then [L + (i : Int)] else []) := by
        rw [show L + ((i + 1 : Nat) : Int) = L + (i : Int) + 1 by omega, fb_split (n := n) (A := L) (B := L + (i : Int)) (by omega) (by omega), fb_unit]
      have ap : lapp (fb n L (L + i)) (L + (i : Int)) = .ok (fb n L (L + i) ++ [L + (i : Int)]) := lapp_ok (by omega)
      have ev : rand (Res.ok (decide ((L + (i : Int) - 1) % (2 * (n : Int)) = 0))) (Res.ok (prB (L + i))) = .ok (psB n (L + i)) := by
        rw [ra_ok2]
        unfold psB
        refine congrArg Res.ok (congrArg (· && prB (L + i)) ?_)
        by_cases z : (L + (i : Int)) % (2 * (n : Int)) = 1
        · rw [decide_eq_true z, decide_eq_true (iff1.mpr z)]
        · rw [decide_eq_false z, decide_eq_false fun q => z (iff1.mp q)]
      simp only [m2, im, rb_ok, lp, ev, on_ok]
      cases hp : psB n (L + i)
      · rw [hp] at st
        simp only [Bool.false_eq_true, if_false, tb_nx]
        refine .nx ⟨?_, ?_⟩
        · rw [st]
          refine Prod.ext (by simp) ?_
          show L + (i : Int) + 1 = L + ((i + 1 : Nat) : Int)
          omega
        · rw [st]; simpa using hle
      · rw [hp] at st
        simp only [if_true, ap, on_ok, tb_nx]
        refine .nx ⟨?_, ?_⟩
        · rw [st]
          refine Prod.ext (by simp) ?_
          show L + (i : Int) + 1 = L + ((i + 1 : Nat) : Int)
          omega
        · rw [st]; simp; omega
  · obtain ⟨rfl, hle⟩ := hs
    rw [rng_len] at hle ⊢
    have := hm.len (B := L + ((200000 : Nat) : Int)) (by omega)
    exact ⟨L + ((200000 : Nat) : Int), by omega, rfl, by omega⟩
theorem primes_ok {e c : Nat} {least : Int} (he : e ≤ 8) (hc1 : 1 ≤ c) (hc : c ≤ 8) (hl : least ≤ 1073741824) (hl0 : -100 ≤ least) (hm : Many (2 ^ e) (imax2 least 2) c) : ∃ N, imax2 least 2 ≤ N ∧ p_transform_primes ((2 ^ e : Nat) : Int) c least = .ok (fb (2 ^ e) (imax2 least 2) N) ∧ (fb (2 ^ e) (imax2 least 2) N).length = c := by
  have hn : 0 < 2 ^ e := Nat.two_pow_pos e
  have hn2 : 2 ^ e ≤ 256 := Nat.pow_le_pow_right (n := 2) (by decide) he
  have cs := cs_pow (e := e) (by omega)
  generalize 2 ^ e = n at *
  have sh : ishl 1 30 = .ok 1073741824 := ishl_ok (by decide +kernel)
  have m2 : imul 2 (n : Int) = .ok (2 * (n : Int)) := imul_ok (mul_ok (n := 2) (m := 20) (Sz.lit (by decide)) (Sz_nat (by omega)) (by decide))
  have dv : idiv (least + 2 * (n : Int) - 2) (2 * (n : Int)) = .ok ((least + 2 * (n : Int) - 2) / (2 * (n : Int))) := idiv_ok (div_ok (by omega) (Sz.mono (n := 20) (by unfold Sz; omega) (by decide)))
  have L1 : 2 ≤ imax2 least 2 ∧ imax2 least 2 ≤ 1073741824 ∧ (imax2 least 2 = least ∨ (imax2 least 2 = 2 ∧ least ≤ 2)) := by unfold imax2; split <;> omega
  generalize imax2 least 2 = L at *
  have q0 := Int.mul_ediv_add_emod (least + 2 * (n : Int) - 2) (2 * (n : Int))
  have q1 := Int.emod_nonneg (least + 2 * (n : Int) - 2) (show 2 * (n : Int) ≠ 0 by omega)
  have q2 := Int.emod_lt_of_pos (least + 2 * (n : Int) - 2) (show 0 < 2 * (n : Int) by omega)
  -- the first number
  obtain ⟨q, hq, qz, N0, hN0, NL, NU, Nn⟩ : ∃ q : Int, imax2 0 ((least + 2 * (n : Int) - 2) / (2 * (n : Int))) = q ∧ Sz 40 q ∧ ∃ N0 : Int, q * (2 * (n : Int)) + 1 = N0 ∧ (L ≤ N0 ∨ (N0 = 1 ∧ L = 2)) ∧ N0 ≤ L + 1000 ∧ ∀ m, L ≤ m → m < N0 → ¬ m % (2 * (n : Int)) = 1 := by
    generalize hd : (least + 2 * (n : Int) - 2) / (2 * (n : Int)) = d at q0
    by_cases c1 : least ≤ 1
    · have d0 : d ≤ 0 := by
        by_cases c2 : d ≤ 0
        · exact c2
        · exfalso
          have : 2 * (n : Int) * 1 ≤ 2 * (n : Int) * d := Int.mul_le_mul_of_nonneg_left (by omega) (by omega)
          omega
      refine ⟨0, by unfold imax2; split <;> omega, Sz.mono (Sz.lit (n := 1) (by decide)) (by decide), 1, by omega, .inr ⟨rfl, by omega⟩, by omega, fun m a b => by omega⟩
    · have hL : L = least := by omega
      have d1 : 1 ≤ d := by
        by_cases c2 : 1 ≤ d
        · exact c2
        · exfalso
          have : 2 * (n : Int) * d ≤ 2 * (n : Int) * 0 := Int.mul_le_mul_of_nonneg_left (by omega) (by omega)
          omega
      have dU : d ≤ 2 * (n : Int) * d := by
        have : 1 * d ≤ 2 * (n : Int) * d := Int.mul_le_mul_of_nonneg_right (by omega) (by omega)
        omega
      refine ⟨d, by unfold imax2; split <;> omega, by unfold Sz; omega, d * (2 * (n : Int)) + 1, rfl, .inl (by rw [Int.mul_comm]; omega), by rw [Int.mul_comm]; omega, fun m a b z => ?_⟩
      have e1 : (m - 1) % (2 * (n : Int)) = 0 := by rw [Int.sub_emod, z, Int.emod_eq_of_lt (a := 1) (by decide) (by omega)]; simp
      obtain ⟨k, hk⟩ := Int.dvd_of_emod_eq_zero e1
      have e2 : 2 * (n : Int) * (d - 1) < 2 * (n : Int) * k := by rw [Int.mul_sub]; omega
      have e3 : 2 * (n : Int) * k < 2 * (n : Int) * d := by rw [Int.mul_comm d] at b; omega
      have k1 : d - 1 < k := Int.lt_of_mul_lt_mul_left e2 (by omega)
      have k2 : k < d := Int.lt_of_mul_lt_mul_left e3 (by omega)
      omega
  have mq : imul q (2 * (n : Int)) = .ok (q * (2 * (n : Int))) := imul_ok (mul_ok qz (m := 20) (by unfold Sz; omega) (by decide))
  have N1 : N0 % (2 * (n : Int)) = 1 := by
    rw [← hN0, Int.mul_comm, Int.add_comm, Int.add_mul_emod_self_left, Int.emod_eq_of_lt (by decide) (by omega)]
  have cc : (!(decide ((1 : Int) ≤ c) && decide ((c : Int) ≤ 8))) = false := by rw [decide_eq_true (by omega), decide_eq_true (by omega)]; rfl
  have cl : decide (least > 1073741824) = false := decide_eq_false (by omega)
  unfold p_transform_primes
  simp only [cs, on_ok, cc, Bool.false_eq_true, if_false, sh, rb_ok, cl, m2, dv, hq, mq, hN0]
  refine while_gen (fun t => ∃ N, L ≤ N ∧ tRun t = .ok (fb n L N) ∧ (fb n L N).length = c) (fun s => (L ≤ s.1 ∨ (s.1 = 1 ∧ L = 2)) ∧ s.1 % (2 * (n : Int)) = 1 ∧ s.2 = fb n L s.1 ∧ s.2.length ≤ c) (fun s => (L + 200000 - s.1).toNat) ⟨NL, N1, ?_, Nat.zero_le _⟩ (fun s hs => ?_)
  · exact (fb_none fun m a b z => Nn m a b z.1).symm
  · obtain ⟨N, found⟩ := s
    obtain ⟨k1, k2, k3, k4⟩ := hs
    have k3 : found = fb n L N := k3
    subst k3
    have h1 : L ≤ N ∨ (N = 1 ∧ L = 2) := k1
    have h2 : N % (2 * (n : Int)) = 1 := k2
    have h4 : (fb n L N).length ≤ c := k4
    clear k1 k2 k4
    by_cases hlt : (fb n L N).length < c
    · right
      refine ⟨by rw [decide_eq_true (show ilen (fb n L N) < (c : Int) by unfold ilen; omega)], ?_⟩
      have NU : N < L + 199000 := by
        by_cases z : N < L + 199000
        · exact z
        · have := hm.len (B := N) (by omega)
          omega
      have ip := isprime_ok (n := N) (by omega)
      have st : fb n L (N + 2 * (n : Int)) = fb n L N ++ (if prB N then [N] else []) := by
        rcases h1 with h1 | ⟨h1, hL⟩
        · rw [fb_split (n := n) h1 (by omega), fb_one h2 hn]
        · subst h1
          have e1 : prB 1 = false := prB_f fun q => by have := q.1; omega
          rw [e1]
          rw [fb_none (A := L) (B := 1) fun m a b => by omega, fb_none fun m a b z => ?_]
          · rfl
          · have e2 : (m - 1) % (2 * (n : Int)) = 0 := by rw [Int.sub_emod, z.1, Int.emod_eq_of_lt (a := 1) (by decide) (by omega)]; simp
            rw [Int.emod_eq_of_lt (by omega) (by omega)] at e2
            omega
      have ap : lapp (fb n L N) N = .ok (fb n L N ++ [N]) := lapp_ok (by omega)
      simp only [ip, on_ok]
      cases hp : prB N
      · rw [hp] at st
        simp only [Bool.false_eq_true, if_false, tb_nx]
        refine .nx ⟨⟨.inl (by show L ≤ N + 2 * (n : Int); rcases h1 with h1 | ⟨h1, hL⟩ <;> omega), by show (N + 2 * (n : Int)) % _ = 1; rw [Int.add_emod_right]; exact h2, ?_, ?_⟩, ?_⟩
        · show fb n L N = fb n L (N + 2 * (n : Int))
          rw [st]; simp
        · exact h4
        · show (L + 200000 - (N + 2 * (n : Int))).toNat < (L + 200000 - N).toNat
          omega
      · rw [hp] at st
        simp only [if_true, ap, on_ok, tb_nx]
        refine .nx ⟨⟨.inl (by show L ≤ N + 2 * (n : Int); rcases h1 with h1 | ⟨h1, hL⟩ <;> omega), by show (N + 2 * (n : Int)) % _ = 1; rw [Int.add_emod_right]; exact h2, ?_, ?_⟩, ?_⟩
        · show fb n L N ++ [N] = fb n L (N + 2 * (n : Int))
          rw [st]; simp
        · show (fb n L N ++ [N]).length ≤ c
          simp; omega
        · show (L + 200000 - (N + 2 * (n : Int))).toNat < (L + 200000 - N).toNat
          omega
    · left
      refine ⟨by rw [decide_eq_false (show ¬ ilen (fb n L N) < (c : Int) by unfold ilen; omega)], ?_⟩
      have NL : L ≤ N := by
        rcases h1 with h1 | ⟨h1, hL⟩
        · exact h1
        · exfalso
          rw [h1, fb_none (A := L) (B := 1) fun m a b => by omega] at hlt
          exact hlt (by simp; omega)
      exact ⟨N, NL, rfl, by omega⟩
/-! what is raised -/
theorem is_rn : isEr .range .notThere = .ok false := rfl
theorem is_nn : isEr .notThere .notThere = .ok true := rfl
theorem is_nr : isEr .notThere .range = .ok false := rfl
theorem tt_not {β σ ρ : Type} {h : Er → TF β σ ρ} : tTry (.ex .notThere) .purse h = match h .notThere with | .ex _ => .stuck | r => r := rfl
theorem str_ne (x : Str) (h : PyData.strOk x = true := by decide +kernel) : dB (opNe (Enc.enc x) (Enc.enc x)) = .ok false := by
  have nb : (Enc.enc x : D).nb = true := h
  have dp : (Enc.enc x : D).dep ≤ 64 := by show 0 ≤ 64; decide
  rw [ne_nb nb nb dp dp, (eqv_nb _ _ nb nb).mpr rfl]
  rfl
theorem str_eq (x : Str) (h : PyData.strOk x = true := by decide +kernel) : dB (opEq (Enc.enc x) (Enc.enc x)) = .ok true := by
  have nb : (Enc.enc x : D).nb = true := h
  have dp : (Enc.enc x : D).dep ≤ 64 := by show 0 ≤ 64; decide
  rw [eq_self nb dp]
  rfl
section
variable {a : List Int} {e : Nat}
theorem told_root {p : Int} {w : Int} {er : Er} (h : p_find_root p (ilen a) = .exc er) (hw : w = 0 ∨ w = 1 ∨ w = 2) (he : er = .range ∨ er = .notThere) : p__law_told w a p = .ok (if er = .range then "range" else "there") := by
  have t1 : p_transform a p = .exc er := by simp only [p_transform, h, on_ex, rn_ex]
  have t2 : p_transform_back a p = .exc er := by simp only [p_transform_back, h, on_ok, rb_ex, on_ex, rn_ex]
  unfold p__law_told
  rcases he with rfl | rfl <;> rcases hw with rfl | rfl | rfl <;> simp [h, t1, t2, tt_range, tt_not, is_rr, is_rn, is_nn, is_nr]
theorem told_there (hl : a.length = 2 ^ e) (he : e ≤ 8) {p : Int} {w : Int} (hw : w = 0 ∨ w = 1 ∨ w = 2) (h : p < 3 ∨ 4294967296 ≤ p ∨ p % (2 * ((2 ^ e : Nat) : Int)) ≠ 1 ∨ ¬ Pr p) : p__law_told w a p = .ok "there" := by
  have r : p_find_root p (ilen a) = .exc .notThere := by
    have il : ilen a = ((2 ^ e : Nat) : Int) := by unfold ilen; rw [hl]
    rw [il]
    simp only [p_find_root, cs_pow (e := e) (by omega), on_ok, cprime_ex he h, on_ex, rn_ex]
  rw [told_root r hw (.inr rfl)]; rfl
theorem cs_bad {n : Int} (h : szOk n = false) : p_check_size n = .exc .range := by rw [cs_eq, h]; rfl
theorem told_range {p : Int} {w : Int} (hw : w = 0 ∨ w = 1 ∨ w = 2) (h : szOk (ilen a) = false) : p__law_told w a p = .ok "range" := by
  have r : p_find_root p (ilen a) = .exc .range := by simp only [p_find_root, cs_bad h, on_ex, rn_ex]
  rw [told_root r hw (.inl rfl)]; rfl
theorem told_tp {c l : Int} (h : p_transform_primes (ilen a) c l = .exc .range) : (l = 2 → p__law_told 3 a c = .ok "range") ∧ (c = 1 → p__law_told 4 a l = .ok "range") := by
  constructor
  · rintro rfl
    unfold p__law_told
    simp [h, tt_range, is_rr, is_rn]
  · rintro rfl
    unfold p__law_told
    simp [h, tt_range, is_rr, is_rn]
theorem lprime_any (n : Int) : ∃ b, p__law_is_prime n = .ok b := by
  have r1 : irange2 2 40000 = .ok (rng 2 39998) := irange2_ok (by decide) (by decide) (by decide) (by decide)
  unfold p__law_is_prime
  by_cases h2 : n < 2
  · exact ⟨false, by rw [if_pos (decide_eq_true h2), rn_rt]⟩
  · rw [if_neg (by simpa using h2), r1, on_ok]
    refine for_gen (fun r => ∃ b, tRun r = .ok b) (fun i s => True) trivial (fun i x s hx _ => ?_) (fun s _ => ⟨true, rfl⟩)
    obtain ⟨hi, rfl⟩ := rng_some hx
    have ms : imul (2 + (i : Int)) (2 + (i : Int)) = .ok ((2 + (i : Int)) * (2 + (i : Int))) := imul_ok (mul_ok (n := 20) (m := 20) (by unfold Sz; omega) (by unfold Sz; omega) (by decide))
    have im : imod n (2 + (i : Int)) = .ok (n % (2 + (i : Int))) := imod_ok (by omega)
    simp only [ms, im, rb_ok, on_ok]
    by_cases hq : (2 + (i : Int)) * (2 + (i : Int)) > n
    · rw [if_pos (decide_eq_true hq)]
      exact .rt ⟨true, rfl⟩
    · rw [if_neg (by simpa using hq)]
      by_cases hz : n % (2 + (i : Int)) = 0
      · rw [if_pos (decide_eq_true hz)]
        exact .rt ⟨false, rfl⟩
      · rw [if_neg (by simpa using hz)]
        exact .nx trivial
theorem bounds_ok {p : Int} (hl : a.length = 2 ^ e) (h : Gp p e) (hp : p ≤ 1100000000) : p__law_bounds a p = .ok true := by
  have p3 := h.p3
  have np := h.np
  have nl := h.nl
  have il : ilen a = ((2 ^ e : Nat) : Int) := by unfold ilen; rw [hl]
  have m2 : imul 2 ((2 ^ e : Nat) : Int) = .ok (2 * ((2 ^ e : Nat) : Int)) := imul_ok (mul_ok (n := 2) (m := 20) (Sz.lit (by decide)) (Sz_nat (by omega)) (by decide))
  have r3 : irange 3 = .ok (rng 0 3) := irange_ok (n := 3) (by decide)
  have sq : imul 65521 65521 = .ok 4293001441 := imul_ok (by decide)
  have l12 : lrep [(1 : Int)] 12 = .ok (List.replicate 12 1) := lrep1_ok (k := 12) (by decide)
  have sh : ishl 1 30 = .ok 1073741824 := ishl_ok (by decide +kernel)
  have lp := lprime_ok (n := p + 2 * ((2 ^ e : Nat) : Int)) (by omega)
  have mb : ∀ b : Bool, imul (2 * ((2 ^ e : Nat) : Int)) (b2i b) = .ok (2 * ((2 ^ e : Nat) : Int) * b2i b) := fun b => imul_ok (mul_ok (n := 20) (m := 2) (by unfold Sz; omega) (by cases b <;> exact Sz.lit (by decide)) (by decide))
  have tc : ∀ c : Int, c < 1 ∨ 8 < c → p_transform_primes (ilen a) c 2 = .exc .range := fun c hc => by
    have cc : (!(decide ((1 : Int) ≤ c) && decide (c ≤ 8))) = true := by
      rcases hc with hc | hc
      · rw [decide_eq_false (by omega)]; rfl
      · rw [decide_eq_false (p := c ≤ 8) (by omega), Bool.and_false]; rfl
    rw [il]
    simp only [p_transform_primes, cs_pow (e := e) (by have := h.he; omega), on_ok, cc, if_true, rn_ex]
  have tl : p_transform_primes (ilen a) 1 1073741825 = .exc .range := by
    rw [il]
    simp only [p_transform_primes, cs_pow (e := e) (by have := h.he; omega), on_ok, sh, rb_ok]
    rfl
  have ts : p_transform_primes (ilen [(1 : Int), 2, 3]) 1 2 = .exc .range := by
    simp only [p_transform_primes, cs_bad (n := ilen [(1 : Int), 2, 3]) (by decide), on_ex, rn_ex]
  unfold p__law_bounds
  simp only [on_ok, il, r3, m2, rb_ok, lp, mb, sq, l12, sh]
  rw [tFor_all ?_]
  · simp only [tb_nx]
    rw [tFor_all ?_]
    · simp only [tb_nx]
      rw [show (1073741824 : Int) + 1 = 1073741825 from rfl, (told_tp tl).2 rfl, rb_ok, str_eq "range", (told_tp (l := 2) (c := 1) ts).1 rfl, rb_ok, str_eq "range"]
      rfl
    · intro y hy
      left
      have : y < 1 ∨ 8 < y := by
        simp only [List.mem_cons, List.not_mem_nil, or_false] at hy
        rcases hy with rfl | rfl | rfl <;> omega
      rw [(told_tp (tc y this)).1 rfl, rb_ok, str_ne "range"]; rfl
  · intro w hw
    left
    have hw' := rng_mem.mp hw
    have hw3 : w = 0 ∨ w = 1 ∨ w = 2 := by omega
    rw [tFor_all ?_]
    · simp only [tb_nx]
      rw [tFor_all ?_]
      · rfl
      · intro r hr
        left
        have : szOk (ilen r) = false := by
          simp only [List.mem_cons, List.not_mem_nil, or_false] at hr
          rcases hr with rfl | rfl <;> decide
        rw [told_range hw3 this, rb_ok, str_ne "range"]; rfl
    · intro y hy
      left
      have fin : ∀ (r : Bool), (r = false → y < 3 ∨ 4294967296 ≤ y ∨ y % (2 * ((2 ^ e : Nat) : Int)) ≠ 1 ∨ ¬ Pr y) → (onE (rand (Res.ok (!r)) (Res.bind (p__law_told w a y) fun v => (dB (opNe (Enc.enc v) (Enc.enc ("there" : Str)))))) fun c => if c then (.rt false) else (.nx ()) : TF Unit Unit Bool) = .nx () := fun r hr => by
        cases r
        · rw [told_there hl h.he hw3 (hr rfl), rb_ok, str_ne "there"]; rfl
        · rfl
      have im : imod y (2 * ((2 ^ e : Nat) : Int)) = .ok (y % (2 * ((2 ^ e : Nat) : Int))) := imod_ok (by omega)
      have ev : ∃ r : Bool, rand (Res.ok (decide (y > 2))) (rand (Res.ok (decide (y % (2 * ((2 ^ e : Nat) : Int)) = 1))) (p__law_is_prime y)) = .ok r ∧ (r = false → y < 3 ∨ 4294967296 ≤ y ∨ y % (2 * ((2 ^ e : Nat) : Int)) ≠ 1 ∨ ¬ Pr y) := by
        by_cases big : y = 4293001441
        · subst big
          obtain ⟨b, hb⟩ := lprime_any 4293001441
          rw [hb, ra_ok2, ra_ok2]
          refine ⟨_, rfl, fun _ => .inr (.inr (.inr fun q => q.2 65521 (by decide) (by decide) (by decide)))⟩
        · have ys : y ≤ 1600000000 := by
            simp only [List.mem_cons, List.not_mem_nil, or_false] at hy
            have bb : ∀ b : Bool, 2 * ((2 ^ e : Nat) : Int) * b2i b ≤ 2 * ((2 ^ e : Nat) : Int) := fun b => by
              cases b
              · show 2 * ((2 ^ e : Nat) : Int) * 0 ≤ _
                omega
              · show 2 * ((2 ^ e : Nat) : Int) * 1 ≤ _
                omega
            rcases hy with rfl | rfl | rfl | rfl | rfl | rfl | rfl | rfl
            · have b0 := bb (!prB (p + 2 * ((2 ^ e : Nat) : Int)))
              generalize 2 * ((2 ^ e : Nat) : Int) * b2i (!prB (p + 2 * ((2 ^ e : Nat) : Int))) = t at b0
              omega
            all_goals omega
          rw [lprime_ok ys, ra_ok2, ra_ok2]
          refine ⟨_, rfl, fun q => ?_⟩
          by_cases c1 : y > 2
          · by_cases c2 : y % (2 * ((2 ^ e : Nat) : Int)) = 1
            · rw [decide_eq_true c1, decide_eq_true c2, Bool.true_and, Bool.true_and] at q
              exact .inr (.inr (.inr fun z => by rw [prB_t z] at q; cases q))
            · exact .inr (.inr (.inl c2))
          · exact .inl (by omega)
      obtain ⟨r, e1, e2⟩ := ev
      simp only [im, rb_ok, e1, on_ok]
      exact fin r e2
end
/-! witnesses -/
def trial (n k : Nat) : Bool := (List.range k).all fun d => n % (d + 2) != 0
theorem pr_trial {n k : Nat} (h2 : 2 ≤ n) (hk : n < (k + 2) * (k + 2)) (h : trial n k = true) : Pr (n : Int) := by
  refine ⟨by omega, fun d hd hq hz => ?_⟩
  obtain ⟨m, rfl⟩ : ∃ m : Nat, d = m := ⟨d.toNat, by omega⟩
  have hm : m < k + 2 := by
    by_cases c : m < k + 2
    · exact c
    · exfalso
      have : (k + 2) * (k + 2) ≤ m * m := Nat.mul_le_mul (by omega) (by omega)
      have : ((m * m : Nat) : Int) ≤ n := by rw [Int.natCast_mul]; exact hq
      omega
  have a := List.all_eq_true.mp h (m - 2) (List.mem_range.mpr (by omega))
  rw [show m - 2 + 2 = m by omega] at a
  have : n % m = 0 := by
    have : ((n % m : Nat) : Int) = 0 := hz
    omega
  rw [this] at a
  cases a
theorem many1 {e c : Nat} {L : Int} (he : e ≤ 8) (hc : c ≤ 8) (h2 : 2 ≤ L) (hl : L ≤ 9000) : Many (2 ^ e) L c := by
  have dv : (2 * ((2 ^ e : Nat) : Int)) ∣ 512 := ⟨((2 ^ (8 - e) : Nat) : Int), by
    rw [Int.mul_assoc, ← Int.natCast_mul, ← Nat.pow_add, show e + (8 - e) = 8 by omega]; rfl⟩
  have mo : ∀ m : Int, m % 512 = 1 → m % (2 * ((2 ^ e : Nat) : Int)) = 1 := fun m hm => by
    rw [← Int.emod_emod_of_dvd m dv, hm, Int.emod_eq_of_lt (by decide) (by have := Nat.two_pow_pos e; omega)]
  refine ⟨[10753, 11777, 12289, 13313, 15361, 17921, 18433, 19457], by decide, hc, fun m hm => ?_⟩
  simp only [List.mem_cons, List.not_mem_nil, or_false] at hm
  have key : ∀ n : Nat, trial n 200 = true → 9000 ≤ n → n < 40000 → (n : Int) % 512 = 1 → L ≤ n ∧ (n : Int) < L + 199000 ∧ (n : Int) % (2 * ((2 ^ e : Nat) : Int)) = 1 ∧ Pr n := fun n t a b o => ⟨by omega, by omega, mo _ o, pr_trial (by omega) (by omega) t⟩
  rcases hm with rfl | rfl | rfl | rfl | rfl | rfl | rfl | rfl
  · exact key 10753 (by decide +kernel) (by decide) (by decide) (by decide)
  · exact key 11777 (by decide +kernel) (by decide) (by decide) (by decide)
  · exact key 12289 (by decide +kernel) (by decide) (by decide) (by decide)
  · exact key 13313 (by decide +kernel) (by decide) (by decide) (by decide)
  · exact key 15361 (by decide +kernel) (by decide) (by decide) (by decide)
  · exact key 17921 (by decide +kernel) (by decide) (by decide) (by decide)
  · exact key 18433 (by decide +kernel) (by decide) (by decide) (by decide)
  · exact key 19457 (by decide +kernel) (by decide) (by decide) (by decide)
theorem many2 {e c : Nat} {L : Int} (he : e ≤ 4) (hc : c ≤ 2) (hl : (1048000 ≤ L ∧ L ≤ 1057600) ∨ L = 1073741824) : Many (2 ^ e) L c := by
  have dv : (2 * ((2 ^ e : Nat) : Int)) ∣ 32 := ⟨((2 ^ (4 - e) : Nat) : Int), by
    rw [Int.mul_assoc, ← Int.natCast_mul, ← Nat.pow_add, show e + (4 - e) = 4 by omega]; rfl⟩
  have mo : ∀ m : Int, m % 32 = 1 → m % (2 * ((2 ^ e : Nat) : Int)) = 1 := fun m hm => by
    rw [← Int.emod_emod_of_dvd m dv, hm, Int.emod_eq_of_lt (by decide) (by have := Nat.two_pow_pos e; omega)]
  rcases hl with hl | rfl
  · refine ⟨[1057633, 1058593], by decide, hc, fun m hm => ?_⟩
    simp only [List.mem_cons, List.not_mem_nil, or_false] at hm
    rcases hm with rfl | rfl
    · exact ⟨by omega, by omega, mo _ (by decide), pr_trial (n := 1057633) (k := 1100) (by decide) (by decide) (by decide +kernel)⟩
    · exact ⟨by omega, by omega, mo _ (by decide), pr_trial (n := 1058593) (k := 1100) (by decide) (by decide) (by decide +kernel)⟩
  · refine ⟨[1073741857, 1073741953], by decide, hc, fun m hm => ?_⟩
    simp only [List.mem_cons, List.not_mem_nil, or_false] at hm
    rcases hm with rfl | rfl
    · exact ⟨by decide, by decide, mo _ (by decide), pr_trial (n := 1073741857) (k := 32780) (by decide) (by decide) (by decide +kernel)⟩
    · exact ⟨by decide, by decide, mo _ (by decide), pr_trial (n := 1073741953) (k := 32780) (by decide) (by decide) (by decide +kernel)⟩
/-! the law -/
theorem pick5 : ∀ r : Nat, r < 5 → ∃ e, e ≤ 8 ∧ ix ([(1 : Int), (2 : Int), (4 : Int), (8 : Int), (16 : Int)] : List Int) (r : Int) = .ok ((2 ^ e : Nat) : Int)
  | 0, _ => ⟨0, by decide, ix_ok rfl⟩
  | 1, _ => ⟨1, by decide, ix_ok rfl⟩
  | 2, _ => ⟨2, by decide, ix_ok rfl⟩
  | 3, _ => ⟨3, by decide, ix_ok rfl⟩
  | 4, _ => ⟨4, by decide, ix_ok rfl⟩
theorem pick4 : ∀ r : Nat, r < 4 → ∃ e, e ≤ 8 ∧ ix ([(32 : Int), (64 : Int), (128 : Int), (256 : Int)] : List Int) (r : Int) = .ok ((2 ^ e : Nat) : Int)
  | 0, _ => ⟨5, by decide, ix_ok rfl⟩
  | 1, _ => ⟨6, by decide, ix_ok rfl⟩
  | 2, _ => ⟨7, by decide, ix_ok rfl⟩
  | 3, _ => ⟨8, by decide, ix_ok rfl⟩
theorem size_ok {c : Int} (zc : Sz 1048576 c) : ∃ e, e ≤ 8 ∧ p__law_size c = .ok ((2 ^ e : Nat) : Int) := by
  have d1 : idiv (iabs c) 60 = .ok (iabs c / 60) := idiv_ok (lit_div (by decide) (by decide +kernel))
  have d2 : idiv (iabs c) 960 = .ok (iabs c / 960) := idiv_ok (lit_div (by decide) (by decide +kernel))
  have i1 : imod (iabs c / 60) 16 = .ok (iabs c / 60 % 16) := imod_ok (by decide)
  have i2 : imod (iabs c / 960) 4 = .ok (iabs c / 960 % 4) := imod_ok (by decide)
  have i3 : imod (iabs c) 5 = .ok (iabs c % 5) := imod_ok (by decide)
  obtain ⟨r4, h4, l4⟩ := mod_nat (iabs c / 960) (m := 4) (by decide)
  obtain ⟨r5, h5, l5⟩ := mod_nat (iabs c) (m := 5) (by decide)
  obtain ⟨e4, le4, p4⟩ := pick4 r4 l4
  obtain ⟨e5, le5, p5⟩ := pick5 r5 l5
  have h4' : iabs c / 960 % 4 = (r4 : Int) := h4
  have h5' : iabs c % 5 = (r5 : Int) := h5
  unfold p__law_size
  simp only [d1, d2, i1, i2, i3, h4', h5', p4, p5, rb_ok, on_ok]
  split
  · exact ⟨e4, le4, rfl⟩
  · exact ⟨e5, le5, rfl⟩
theorem ix_last {xs : List Int} (h : xs ≠ []) : ∃ x ∈ xs, ix xs (-1) = .ok x := by
  have hl := List.length_pos_iff.mpr h
  refine ⟨xs[xs.length - 1], List.getElem_mem _, ?_⟩
  unfold ix
  have e1 : ixOf xs.length (-1) = some (xs.length - 1) := by
    unfold ixOf
    rw [if_neg (by decide), if_pos (by omega)]
    congr 1; omega
  unfold atL
  rw [e1]
  rw [Option.bind_some, List.getElem?_eq_getElem (by omega)]
theorem pow2_16 : ∀ e : Nat, e ≤ 8 → ((2 ^ e : Nat) : Int) ≤ 16 → e ≤ 4 := by decide
theorem law_ok (ns : List Int) (hb : ∀ z ∈ ns, Builtin.Int.intBits z ≤ 1048576) : p_law ns = .ok true := by
  have zc := cell_sz hb
  have c0 : p__law_cell ns 0 = .ok (cell ns 0) := cell_ok ns 0
  have c1 : p__law_cell ns 1 = .ok (cell ns 1) := cell_ok ns 1
  have c2 : p__law_cell ns 2 = .ok (cell ns 2) := cell_ok ns 2
  have c3 : p__law_cell ns 3 = .ok (cell ns 3) := cell_ok ns 3
  obtain ⟨e, he, sz⟩ := size_ok (zc 0)
  have np : 0 < 2 ^ e := Nat.two_pow_pos e
  have nl : 2 ^ e ≤ 256 := Nat.pow_le_pow_right (n := 2) (by decide) he
  have dl : ∀ x y : Int, 0 < y → y < 1000000000 → idiv x y = .ok (x / y) := fun x y h1 h2 => idiv_ok (div_ok h1 (Sz.mono (n := 40) (by unfold Sz; omega) (by decide)))
  have ml : ∀ x y : Int, 0 < y → imod x y = .ok (x % y) := fun x y h1 => imod_ok h1
  have sh3 : ishl 1 30 = .ok 1073741824 := ishl_ok (by decide +kernel)
  have sh2 : ishl 1 20 = .ok 1048576 := ishl_ok (by decide +kernel)
  have sh5 : ishl 1 50 = .ok 1125899906842624 := ishl_ok (by decide +kernel)
  -- the count
  obtain ⟨k1, ek1, k10, k18⟩ : ∃ k : Int, ix ([3, 8] : List Int) (b2i (decide (iabs (cell ns 1) / 9000 % 4 = 1))) = .ok k ∧ 0 < k ∧ k ≤ 8 := by
    cases decide (iabs (cell ns 1) / 9000 % 4 = 1)
    · exact ⟨3, ix_0, by decide, by decide⟩
    · exact ⟨8, ix_1, by decide, by decide⟩
  have q0 := Int.emod_nonneg (iabs (cell ns 0) / 5) (show k1 ≠ 0 by omega)
  have q1 := Int.emod_lt_of_pos (iabs (cell ns 0) / 5) k10
  -- the least
  obtain ⟨l1, el1, l10, l18⟩ : ∃ l : Int, ix ([iabs (cell ns 1) / 3 % 3000, iabs (cell ns 1) / 3 % 9000, -5] : List Int) (iabs (cell ns 1) % 3) = .ok l ∧ -5 ≤ l ∧ l < 9000 := by
    obtain ⟨r, hr, lr⟩ := mod_nat (iabs (cell ns 1)) (m := 3) (by decide)
    have hr' : iabs (cell ns 1) % 3 = (r : Int) := hr
    rw [hr']
    have p0 := Int.emod_nonneg (iabs (cell ns 1) / 3) (show (3000 : Int) ≠ 0 by decide)
    have p1 := Int.emod_lt_of_pos (iabs (cell ns 1) / 3) (show (0 : Int) < 3000 by decide)
    have p2 := Int.emod_nonneg (iabs (cell ns 1) / 3) (show (9000 : Int) ≠ 0 by decide)
    have p3 := Int.emod_lt_of_pos (iabs (cell ns 1) / 3) (show (0 : Int) < 9000 by decide)
    have cs : r = 0 ∨ r = 1 ∨ r = 2 := by omega
    rcases cs with rfl | rfl | rfl
    · exact ⟨_, ix_ok rfl, by omega, by omega⟩
    · exact ⟨_, ix_ok rfl, by omega, by omega⟩
    · exact ⟨_, ix_ok rfl, by decide, by decide⟩
  obtain ⟨l2, el2, l20⟩ : ∃ l : Int, ix ([1073741824, 1048576 + l1] : List Int) (iabs (cell ns 1) / 1152000 % 2) = .ok l ∧ ((1048000 ≤ l ∧ l ≤ 1057600) ∨ l = 1073741824) := by
    obtain ⟨r, hr, lr⟩ := mod_nat (iabs (cell ns 1) / 1152000) (m := 2) (by decide)
    have hr' : iabs (cell ns 1) / 1152000 % 2 = (r : Int) := hr
    rw [hr']
    have cs : r = 0 ∨ r = 1 := by omega
    rcases cs with rfl | rfl
    · exact ⟨_, ix_ok rfl, .inr rfl⟩
    · exact ⟨_, ix_ok rfl, .inl (by omega)⟩
  have q2 := Int.emod_nonneg (1 + iabs (cell ns 0) / 5 % k1) (show (2 : Int) ≠ 0 by decide)
  have q3 := Int.emod_lt_of_pos (1 + iabs (cell ns 0) / 5 % k1) (show (0 : Int) < 2 by decide)
  have hi : ∀ {c : Bool} {x y : Int × Int} {k : Int × Int → TF Unit Unit Bool}, (TF.bind (if c = true then (.nx x) else (.nx y) : TF Unit (Int × Int) Bool) k) = k (if c then x else y) := fun {c x y k} => by cases c <;> rfl
  obtain ⟨s, es, sc1, sc8, sl, sl0, sm⟩ : ∃ s : Int × Int, (if (decide (iabs (cell ns 1) / 36000 % 32 = 5) && decide (((2 ^ e : Nat) : Int) ≤ 16)) = true then (1 + (1 + iabs (cell ns 0) / 5 % k1) % 2, l2) else (1 + iabs (cell ns 0) / 5 % k1, l1)) = s ∧ 1 ≤ s.1 ∧ s.1 ≤ 8 ∧ s.2 ≤ 1073741824 ∧ -100 ≤ s.2 ∧ Many (2 ^ e) (imax2 s.2 2) s.1.toNat := by
    refine ⟨_, rfl, ?_⟩
    split
    · rename_i c
      have e4 : e ≤ 4 := pow2_16 e he (of_decide_eq_true (Bool.and_eq_true_iff.mp c).2)
      have im : imax2 l2 2 = l2 := by unfold imax2; rw [if_neg (by omega)]
      refine ⟨by omega, by omega, by omega, by omega, ?_⟩
      show Many _ (imax2 l2 2) _
      rw [im]
      exact many2 e4 (by show (1 + (1 + iabs (cell ns 0) / 5 % k1) % 2).toNat ≤ 2; omega) l20
    · have im : 2 ≤ imax2 l1 2 ∧ imax2 l1 2 ≤ 9000 := by unfold imax2; split <;> omega
      refine ⟨by omega, by omega, by omega, by omega, ?_⟩
      exact many1 he (by show (1 + iabs (cell ns 0) / 5 % k1).toNat ≤ 8; omega) im.1 im.2
  have cN : s.1 = ((s.1.toNat : Nat) : Int) := by omega
  obtain ⟨N1, a1, b1, g1⟩ := primes_ok (c := s.1.toNat) he (by omega) (by omega) sl sl0 sm
  obtain ⟨N2, a2, b2, g2⟩ := lprimes_ok (c := s.1.toNat) (least := s.2) np nl (by omega) sl sm
  rw [fb_same a2 a1 g2 g1] at b2
  rw [← cN] at b1 b2
  have ne : fb (2 ^ e) (imax2 s.2 2) N1 ≠ [] := fun q => by rw [q] at g1; simp at g1; omega
  have ubound : ∀ x ∈ fb (2 ^ e) (imax2 s.2 2) N1, x < imax2 s.2 2 + 199000 := fun x hx => by
    by_cases z : x < imax2 s.2 2 + 199000
    · exact z
    · exfalso
      have m := fb_mem hx
      have l := sm.len (B := x) (by omega)
      have sp := fb_split (n := 2 ^ e) (A := imax2 s.2 2) (B := x) (C := N1) m.1 (by omega)
      have hin : x ∈ fb (2 ^ e) x N1 := fb_in (Int.le_refl _) m.2.1 m.2.2.1 m.2.2.2
      have := List.length_pos_of_mem hin
      rw [sp, List.length_append] at g1
      omega
  obtain ⟨p, hp, ep⟩ := ix_last ne
  have pm := fb_mem hp
  have pu := ubound p hp
  have sL : imax2 s.2 2 ≤ 1073741824 := by unfold imax2; split <;> omega
  have G : Gp p e := ⟨pm.2.2.2, pm.2.2.1, by omega, he⟩
  have p3 := G.p3
  obtain ⟨w, rw', rt, w1, wp, wl⟩ := root_ok G
  have w0 : 0 ≤ w ∧ w < p := ⟨by omega, wp⟩
  have lpw : p__law_power w ((2 ^ e : Nat) : Int) p = .ok (p - 1) := by
    rw [lpower_ok G w0 (by omega) np, rt.pw]
    congr 1
    rw [show (-1 : Int) = (p - 1) + p * (-1) by omega, Int.add_mul_emod_self_left, Int.emod_eq_of_lt (by omega) (by omega)]
  have rg1 : irange (((2 ^ e : Nat) : Int) - 1) = .ok (rng 0 (2 ^ e - 1)) := by
    rw [show ((2 ^ e : Nat) : Int) - 1 = ((2 ^ e - 1 : Nat) : Int) by omega]
    exact irange_ok (by omega)
  have mdp : ∀ x : Int, 0 ≤ x % p ∧ x % p < p := fun x => ⟨Int.emod_nonneg _ (by omega), Int.emod_lt_of_pos _ (by omega)⟩
  have imp : ∀ x, imod x p = .ok (x % p) := fun x => imod_ok (by omega)
  -- polynomials
  obtain ⟨m, em, m1, m2⟩ : ∃ m : Int, ix ([p, 1125899906842624] : List Int) (iabs (cell ns 2) % 2) = .ok m ∧ 1 ≤ m ∧ m ≤ 1125899906842624 := by
    obtain ⟨r, hr, lr⟩ := mod_nat (iabs (cell ns 2)) (m := 2) (by decide)
    have hr' : iabs (cell ns 2) % 2 = (r : Int) := hr
    rw [hr']
    have cs : r = 0 ∨ r = 1 := by omega
    rcases cs with rfl | rfl
    · exact ⟨_, ix_ok rfl, by omega, by omega⟩
    · exact ⟨_, ix_ok rfl, by decide, by decide⟩
  obtain ⟨a, ea, la, ba⟩ := poly_ok (zc 2) (n := 2 ^ e) (by omega) m1 m2
  obtain ⟨r0, er, lr, br⟩ := poly_ok (zc 3) (n := 2 ^ e) (m := p) (by omega) (by omega) (by omega)
  have tr := transform_ok (a := a) G la rw' w0
  have va := values_ok (a := a) G la w0
  have lt : (trf p w a).length = 2 ^ e := by rw [← la]; exact tab_len
  have zt : ∀ x ∈ trf p w a, 0 ≤ x ∧ x < p := fun x hx => by
    obtain ⟨i, hi⟩ := List.getElem?_of_mem hx
    have hl := (List.getElem?_eq_some_iff.mp hi).1
    rw [← at0_some hi]
    unfold trf
    rw [tab_at (by rw [la, ← lt]; exact hl)]
    exact hv_range (by omega) _
  obtain ⟨u, sc, hu, hsc, bk⟩ := back_ok G lt rw' rt zt
  rw [bk_trf rt hu la hsc] at bk
  have cm1 : cmapE (fun (x : Int) => imod x p) a = .ok (a.map fun x => x % p) := cmapE_ok (by omega) fun x _ => imp x
  have cm2 : cmapE (fun (x : Int) => imod x p) r0 = .ok (r0.map fun x => x % p) := cmapE_ok (by omega) fun x _ => imp x
  have lrow : (r0.map fun x => x % p).length = 2 ^ e := by simpa using lr
  have zrow : ∀ x ∈ r0.map fun x => x % p, 0 ≤ x ∧ x < p := fun x hx => by
    obtain ⟨y, _, rfl⟩ := List.mem_map.mp hx
    exact mdp y
  generalize (r0.map fun x => x % p) = row at cm2 lrow zrow
  obtain ⟨u2, sc2, hu2, hsc2, bk2⟩ := back_ok G lrow rw' rt zrow
  have lbk : (bkf p u2 sc2 row).length = 2 ^ e := by rw [← lrow]; exact tab_len
  have zbk : ∀ x ∈ bkf p u2 sc2 row, 0 ≤ x ∧ x < p := fun x hx => by
    obtain ⟨i, hi⟩ := List.getElem?_of_mem hx
    have hl := (List.getElem?_eq_some_iff.mp hi).1
    rw [← at0_some hi]
    unfold bkf
    rw [tab_at (by rw [lrow, ← lbk]; exact hl)]
    exact mdp _
  have tr2 := transform_ok (a := bkf p u2 sc2 row) G lbk rw' w0
  rw [trf_bk rt hu2 lrow hsc2 zrow] at tr2
  have cf : cfm (fun (x : Int) => (!((decide ((0 : Int) ≤ x)) && (decide (x < p))))) (fun (x : Int) => x) (bkf p u2 sc2 row) = .ok [] := by
    rw [cfm_ok (by omega)]
    congr 1
    rw [List.map_id'', List.filter_eq_nil_iff.mpr]
    · intro x hx
      obtain ⟨z1, z2⟩ := zbk x hx
      rw [decide_eq_true z1, decide_eq_true z2]; decide
    · intro x; rfl
  have bo := bounds_ok (a := a) (e := e) la G (by omega)
  unfold p_law
  simp only [c0, c1, c2, c3, sz, rb_ok, on_ok, dl _ 5 (by decide) (by decide), dl _ 9000 (by decide) (by decide), dl _ 3 (by decide) (by decide), dl _ 36000 (by decide) (by decide), dl _ 1152000 (by decide) (by decide), ml _ 4 (by decide), ml _ 3000 (by decide), ml _ 9000 (by decide), ml _ 3 (by decide), ml _ 32 (by decide), ml _ 2 (by decide), ek1, ml _ k1 k10, el1, sh3, sh2, sh5, el2, ra_ok2]
  rw [hi, es]
  simp only [b1, b2, on_ok, rb_ok, is_list_self, Bool.not_true, Bool.false_eq_true, if_false, ep, rw', p__law_integer, rn_rt, Bool.not_false, Bool.and_true, decide_eq_true w1, decide_eq_true wp, lpw, decide_true, ro_ok2, Bool.or_self, rg1]
  rw [tFor_st (fun i => w ^ (2 * i + 1) % p) ?_ ?_]
  · simp only [tb_nx, em, rb_ok, ea, on_ok, tr, va, is_list_self, Bool.not_true, decide_true, ro_ok2, Bool.or_self, Bool.false_eq_true, if_false, bk, cm1, er, cm2, bk2, cf, tr2, bo, rn_rt]
    rfl
  · show w = w ^ 1 % p
    rw [Int.pow_succ, Int.pow_zero, Int.one_mul, Int.emod_eq_of_lt w0.1 w0.2]
  · intro i x hx
    left
    obtain ⟨hi', rfl⟩ := rng_some hx
    have z1 := mdp (w ^ (2 * i + 1))
    have mm1 : imul (w ^ (2 * i + 1) % p) w = .ok (w ^ (2 * i + 1) % p * w) := imul_ok (mul_ok (Sz.of_range G.sz z1.1 (by omega)) (Sz.of_range G.sz w0.1 (by omega)) (by decide))
    have mm2 : imul (w ^ (2 * i + 1) % p * w) w = .ok (w ^ (2 * i + 1) % p * w * w) := imul_ok (mul_ok (Sz.mul (Sz.of_range G.sz z1.1 (by omega)) (Sz.of_range G.sz w0.1 (by omega))) (Sz.of_range G.sz w0.1 (by omega)) (by decide))
    have st : w ^ (2 * i + 1) % p * w * w % p = w ^ (2 * (i + 1) + 1) % p := by
      rw [Int.mul_assoc, mul_emod_l, ← Int.mul_assoc, ← pw_next]
    have ge := wl (i + 1) (by omega)
    simp only [mm1, mm2, rb_ok, imp, on_ok, st]
    rw [if_neg (by rw [decide_eq_false (by omega)]; decide)]
theorem math (ns : List Int) (_hl : ns.length ≤ 63) (hb : ∀ z ∈ ns, Builtin.Int.intBits z ≤ 1048576) : f_law [.lst (ns.map D.int)] = .ok (.bl true) := by
  have s := s_law ns
  rw [law_ok ns hb] at s
  exact s
end K05
namespace K05
open PySem PySem.Spec L2 VL
structure Tx (K : PySem.W.Frag) (mg : Str → Option Value) : Prop where
  blt : Blt mg
  er : ErT K mg
  cl : ClT K mg
theorem hu65 {k : Nat} {A : Around} (hr : Room k A) : A.units + 65 < cLine := by have := hr.un; omega
abbrev top (i : Nat) : Stmt := PySem.Challenge.pw_noisepurse_k05_transforms.main.body.getD i (.Pass ⟨0, 0, 0, 0⟩)
abbrev st_check_modulus : Stmt := top 5
theorem sc_check_modulus : FnScope ["k"] ["k"] (defScope st_check_modulus) := ⟨rfl, rfl, rfl, by decide +kernel, rfl, by decide +kernel, by decide +kernel⟩
theorem ok_check_modulus {P : Program} {w : World} {K : PySem.W.Frag} {mg : Str → Option Value} {base : Heap} {fA : Addr} {fd : FuncData} {dvs : List V} {kws : List (Str × V)} (t : Tx K mg) {C_OutOfRange : Addr} (g_OutOfRange : mg "OutOfRange" = some (.ref C_OutOfRange))  (F : FunD K "check_modulus" "check_modulus" (defArgs st_check_modulus) (defBody st_check_modulus) (defScope st_check_modulus) dvs kws fA fd) :
    FnOk P w K mg base (L2.CX P w) 1 fA fd ["k"] (spF ⟨K, mg, none⟩ 1 f_check_modulus 0) := by
  have nd := (sc_check_modulus).nd
  exact fn_ok (Γ := [0]) (Γ' := [0]) F sc_check_modulus rfl rfl (fun cdv A outer s H E hr => by
    unfold b_check_modulus
    exact (ss_one (s_if (Γ' := [0]) rfl (q_cmp op_lt opd_B0 (e_var 0) (e_int (n := 0)) (nomark _))
 (ss_one (s_raise (Γ' := [0]) .range rfl rfl rfl (takes_of rfl rfl rfl rfl) (t.er.erc .range _ g_OutOfRange rfl)))
 (ss_nil))))
abbrev st_is_prime : Stmt := top 8
theorem sc_is_prime : FnScope ["number", "divisor"] ["number"] (defScope st_is_prime) := ⟨rfl, rfl, rfl, by decide +kernel, rfl, by decide +kernel, by decide +kernel⟩
theorem ok_is_prime {P : Program} {w : World} {K : PySem.W.Frag} {mg : Str → Option Value} {base : Heap} {fA : Addr} {fd : FuncData} {dvs : List V} {kws : List (Str × V)} (t : Tx K mg) {C_OutOfRange : Addr} (g_OutOfRange : mg "OutOfRange" = some (.ref C_OutOfRange))  (F : FunD K "is_prime" "is_prime" (defArgs st_is_prime) (defBody st_is_prime) (defScope st_is_prime) dvs kws fA fd) :
    FnOk P w K mg base (L2.CX P w) 1 fA fd ["number"] (spF ⟨K, mg, none⟩ 1 f_is_prime 0) := by
  have nd := (sc_is_prime).nd
  exact fn_ok (Γ := [0, 0]) (Γ' := [0, 0]) F sc_is_prime rfl rfl (fun cdv A outer s H E hr => by
    unfold b_is_prime w_is_prime_0 q_is_prime_0
    exact (ss_cons (s_if (Γ' := [0, 0]) rfl (q_cmp op_ge opd_B0 (e_var 0) (e_op2 (n := 0) op_shlW od_shl (e_int (n := 0)) (e_int (n := 0))) (nomark _))
 (ss_one (s_raise (Γ' := [0, 0]) .range rfl rfl rfl (takes_of rfl rfl rfl rfl) (t.er.erc .range _ g_OutOfRange rfl)))
 (ss_nil))
 (ss_cons (s_if (Γ' := [0, 0]) rfl (q_cmp op_lt opd_B0 (e_var 0) (e_int (n := 0)) (nomark _))
 (ss_one (s_ret (Γ' := [0, 0]) rfl (e_cmp (n := 0) op_gt opd_B0 (e_var 0) (e_int (n := 0)) (nomark _))))
 (ss_nil))
 (ss_cons (s_if (Γ' := [0, 0]) rfl (q_cmp (op_eqD hr.units) ob_eq (e_op2 (n := 0) op_mod od_mod (e_var 0) (e_int (n := 0))) (e_int (n := 0)) (nomark _))
 (ss_one (s_ret (Γ' := [0, 0]) rfl (e_bl (n := 0))))
 (ss_nil))
 (ss_cons (s_asg (Γ' := [0, 0]) 1 rfl nd (e_int (n := 0)) rfl)
 (ss_cons (s_while [false, false] rfl (passes_of rfl) (q_cmp op_le opd_B0 (e_op2 op_mulD od_mul (e_var 1) (e_var 1)) (e_var 0) (nomark _)) (Γ' := [0, 0]) rfl
 (ss_cons (s_if (Γ' := [0, 0]) rfl (q_cmp (op_eqD hr.units) ob_eq (e_op2 (n := 0) op_mod od_mod (e_var 0) (e_var 1)) (e_int (n := 0)) (nomark _))
 (ss_one (s_ret (Γ' := [0, 0]) rfl (e_bl (n := 0))))
 (ss_nil))
 (ss_one (s_asg (Γ' := [0, 0]) 1 rfl nd (e_fz (e_op2 op_addD od_add (e_var 1) (e_int (n := 0)))) rfl))))
 (ss_one (s_ret (Γ' := [0, 0]) rfl (e_bl (n := 0))))))))))
abbrev st_check_size : Stmt := top 10
theorem sc_check_size : FnScope ["size"] ["size"] (defScope st_check_size) := ⟨rfl, rfl, rfl, by decide +kernel, rfl, by decide +kernel, by decide +kernel⟩
theorem ok_check_size {P : Program} {w : World} {K : PySem.W.Frag} {mg : Str → Option Value} {base : Heap} {fA : Addr} {fd : FuncData} {dvs : List V} {kws : List (Str × V)} (t : Tx K mg) {C_OutOfRange : Addr} (g_OutOfRange : mg "OutOfRange" = some (.ref C_OutOfRange))  (F : FunD K "check_size" "check_size" (defArgs st_check_size) (defBody st_check_size) (defScope st_check_size) dvs kws fA fd) :
    FnOk P w K mg base (L2.CX P w) 1 fA fd ["size"] (spF ⟨K, mg, none⟩ 1 f_check_size 0) := by
  have nd := (sc_check_size).nd
  exact fn_ok (Γ := [0]) (Γ' := [0]) F sc_check_size rfl rfl (fun cdv A outer s H E hr => by
    unfold b_check_size
    exact (ss_one (s_if (Γ' := [0]) rfl (q_w (w_or (q_not (q_chain op_le op_le opd_B0 opd_B0 (e_int (n := 0)) (e_var 0) (e_int (n := 0)))) (w_or1 (q_cmp (op_neD hr.units) ob_ne (e_op2 (n := 0) op_and od_and (e_var 0) (e_op2 (n := 0) op_sub od_sub (e_var 0) (e_int (n := 0)))) (e_int (n := 0)) (nomark _)))))
 (ss_one (s_raise (Γ' := [0]) .range rfl rfl rfl (takes_of rfl rfl rfl rfl) (t.er.erc .range _ g_OutOfRange rfl)))
 (ss_nil))))
abbrev st__law_cell : Stmt := top 18
theorem sc__law_cell : FnScope ["script", "k"] ["script", "k"] (defScope st__law_cell) := ⟨rfl, rfl, rfl, by decide +kernel, rfl, by decide +kernel, by decide +kernel⟩
theorem ok__law_cell {P : Program} {w : World} {K : PySem.W.Frag} {mg : Str → Option Value} {base : Heap} {fA : Addr} {fd : FuncData} {dvs : List V} {kws : List (Str × V)} (t : Tx K mg)   (F : FunD K "_law_cell" "_law_cell" (defArgs st__law_cell) (defBody st__law_cell) (defScope st__law_cell) dvs kws fA fd) :
    FnOk P w K mg base (L2.CX P w) 1 fA fd ["script", "k"] (spF ⟨K, mg, none⟩ 2 f__law_cell 0) := by
  have nd := (sc__law_cell).nd
  exact fn_ok (Γ := [0, 0]) (Γ' := [0, 0]) F sc__law_cell rfl rfl (fun cdv A outer s H E hr => by
    unfold b__law_cell
    exact (ss_cons (s_if (Γ' := [0, 0]) rfl (q_cmp op_lt opd_B0 (e_var 1) (e_len (n := 0) t.blt.len (a_cons (e_var 0) a_nil)) (nomark _))
 (ss_one (s_ret (Γ' := [0, 0]) rfl (e_int' (n := 0) t.blt.int (a_cons (e_ix (e_var 0) (e_var 1)) a_nil))))
 (ss_nil))
 (ss_one (s_ret (Γ' := [0, 0]) rfl (e_int (n := 0))))))
abbrev st__law_mixed : Stmt := top 19
theorem sc__law_mixed : FnScope ["cell", "k", "x"] ["cell", "k"] (defScope st__law_mixed) := ⟨rfl, rfl, rfl, by decide +kernel, rfl, by decide +kernel, by decide +kernel⟩
theorem ok__law_mixed {P : Program} {w : World} {K : PySem.W.Frag} {mg : Str → Option Value} {base : Heap} {fA : Addr} {fd : FuncData} {dvs : List V} {kws : List (Str × V)} (t : Tx K mg)   (F : FunD K "_law_mixed" "_law_mixed" (defArgs st__law_mixed) (defBody st__law_mixed) (defScope st__law_mixed) dvs kws fA fd) :
    FnOk P w K mg base (L2.CX P w) 1 fA fd ["cell", "k"] (spF ⟨K, mg, none⟩ 2 f__law_mixed 0) := by
  have nd := (sc__law_mixed).nd
  exact fn_ok (Γ := [0, 0, 0]) (Γ' := [0, 0, 0]) F sc__law_mixed rfl rfl (fun cdv A outer s H E hr => by
    unfold b__law_mixed
    exact (ss_cons (s_asg (Γ' := [0, 0, 0]) 2 rfl nd (e_op2 (n := 0) op_mod od_mod (e_op2 op_addD od_add (e_op2 op_addD od_add (e_op2 op_mulD od_mul (e_int' (n := 0) t.blt.int (a_cons (e_var 0) a_nil)) (e_int (n := 0))) (e_op2 op_mulD od_mul (e_var 1) (e_int (n := 0)))) (e_int (n := 0))) (e_int (n := 0))) rfl)
 (ss_cons (s_asg (Γ' := [0, 0, 0]) 2 rfl nd (e_op2 (n := 0) op_mod od_mod (e_op2 op_addD od_add (e_op2 op_addD od_add (e_op2 op_mulD od_mul (e_var 2) (e_var 2)) (e_op2 op_mulD od_mul (e_var 1) (e_int (n := 0)))) (e_int (n := 0))) (e_int (n := 0))) rfl)
 (ss_cons (s_asg (Γ' := [0, 0, 0]) 2 rfl nd (e_op2 (n := 0) op_mod od_mod (e_op2 op_addD od_add (e_op2 op_addD od_add (e_op2 op_mulD od_mul (e_var 2) (e_var 2)) (e_op2 op_mulD od_mul (e_var 1) (e_int (n := 0)))) (e_int (n := 0))) (e_int (n := 0))) rfl)
 (ss_one (s_ret (Γ' := [0, 0, 0]) rfl (e_op2 (n := 0) op_fdivL od_div (e_var 2) (e_int (n := 0)))))))))
abbrev st__law_integer : Stmt := top 20
theorem sc__law_integer : FnScope ["actual"] ["actual"] (defScope st__law_integer) := ⟨rfl, rfl, rfl, by decide +kernel, rfl, by decide +kernel, by decide +kernel⟩
theorem ok__law_integer {P : Program} {w : World} {K : PySem.W.Frag} {mg : Str → Option Value} {base : Heap} {fA : Addr} {fd : FuncData} {dvs : List V} {kws : List (Str × V)} (t : Tx K mg)   (F : FunD K "_law_integer" "_law_integer" (defArgs st__law_integer) (defBody st__law_integer) (defScope st__law_integer) dvs kws fA fd) :
    FnOk P w K mg base (L2.CX P w) 1 fA fd ["actual"] (spF ⟨K, mg, none⟩ 1 f__law_integer 0) := by
  have nd := (sc__law_integer).nd
  exact fn_ok (Γ := [0]) (Γ' := [0]) F sc__law_integer rfl rfl (fun cdv A outer s H E hr => by
    unfold b__law_integer
    exact (ss_one (s_ret (Γ' := [0]) rfl (e_and (e_isTy (n := 0) t.blt.isi t.blt.int bt_int (e_var 0)) (e_one (e_not (n := 0) (e_isTy (n := 0) t.blt.isi t.blt.bool bt_bool (e_var 0))))))))
abbrev st__law_is_prime : Stmt := top 24
theorem sc__law_is_prime : FnScope ["number", "divisor"] ["number"] (defScope st__law_is_prime) := ⟨rfl, rfl, rfl, by decide +kernel, rfl, by decide +kernel, by decide +kernel⟩
theorem ok__law_is_prime {P : Program} {w : World} {K : PySem.W.Frag} {mg : Str → Option Value} {base : Heap} {fA : Addr} {fd : FuncData} {dvs : List V} {kws : List (Str × V)} (t : Tx K mg)   (F : FunD K "_law_is_prime" "_law_is_prime" (defArgs st__law_is_prime) (defBody st__law_is_prime) (defScope st__law_is_prime) dvs kws fA fd) :
    FnOk P w K mg base (L2.CX P w) 1 fA fd ["number"] (spF ⟨K, mg, none⟩ 1 f__law_is_prime 0) := by
  have nd := (sc__law_is_prime).nd
  exact fn_ok (Γ := [0, 0]) (Γ' := [0, 0]) F sc__law_is_prime rfl rfl (fun cdv A outer s H E hr => by
    unfold b__law_is_prime w__law_is_prime_0
    exact (ss_cons (s_if (Γ' := [0, 0]) rfl (q_cmp op_lt opd_B0 (e_var 0) (e_int (n := 0)) (nomark _))
 (ss_one (s_ret (Γ' := [0, 0]) rfl (e_bl (n := 0))))
 (ss_nil))
 (ss_cons (s_for [false, false] rfl (passes_of rfl) rfl (i_range2 t.blt.range (e_int (n := 0)) (e_int (n := 0))) (g_name 1 nd) (Γ' := [0, 0]) rfl
 (ss_cons (s_if (Γ' := [0, 0]) rfl (q_cmp op_gt opd_B0 (e_op2 op_mulD od_mul (e_var 1) (e_var 1)) (e_var 0) (nomark _))
 (ss_one (s_ret (Γ' := [0, 0]) rfl (e_bl (n := 0))))
 (ss_nil))
 (ss_one (s_if (Γ' := [0, 0]) rfl (q_cmp (op_eqD hr.units) ob_eq (e_op2 (n := 0) op_mod od_mod (e_int' (n := 0) t.blt.int (a_cons (e_var 0) a_nil)) (e_var 1)) (e_int (n := 0)) (nomark _))
 (ss_one (s_ret (Γ' := [0, 0]) rfl (e_bl (n := 0))))
 (ss_nil)))))
 (ss_one (s_ret (Γ' := [0, 0]) rfl (e_bl (n := 0)))))))
abbrev st__law_power : Stmt := top 26
theorem sc__law_power : FnScope ["a", "exponent", "prime", "result", "turn"] ["a", "exponent", "prime"] (defScope st__law_power) := ⟨rfl, rfl, rfl, by decide +kernel, rfl, by decide +kernel, by decide +kernel⟩
theorem ok__law_power {P : Program} {w : World} {K : PySem.W.Frag} {mg : Str → Option Value} {base : Heap} {fA : Addr} {fd : FuncData} {dvs : List V} {kws : List (Str × V)} (t : Tx K mg)   (F : FunD K "_law_power" "_law_power" (defArgs st__law_power) (defBody st__law_power) (defScope st__law_power) dvs kws fA fd) :
    FnOk P w K mg base (L2.CX P w) 1 fA fd ["a", "exponent", "prime"] (spF ⟨K, mg, none⟩ 3 f__law_power 0) := by
  have nd := (sc__law_power).nd
  exact fn_ok (Γ := [0, 0, 0, 0, 0]) (Γ' := [0, 0, 0, 0, 0]) F sc__law_power rfl rfl (fun cdv A outer s H E hr => by
    unfold b__law_power w__law_power_0
    exact (ss_cons (s_asg (Γ' := [0, 0, 0, 0, 0]) 3 rfl nd (e_int (n := 0)) rfl)
 (ss_cons (s_for [false, false, false, false, false] rfl (passes_of rfl) rfl (i_range1 t.blt.range (e_var 1)) (g_name 4 nd) (Γ' := [0, 0, 0, 0, 0]) rfl
 (ss_one (s_asg (Γ' := [0, 0, 0, 0, 0]) 3 rfl nd (e_op2 (n := 0) op_mod od_mod (e_int' (n := 0) t.blt.int (a_cons (e_op2 op_mulD od_mul (e_var 3) (e_var 0)) a_nil)) (e_var 2)) rfl)))
 (ss_one (s_ret (Γ' := [0, 0, 0, 0, 0]) rfl (e_var 3))))))
abbrev st__law_size : Stmt := top 30
theorem sc__law_size : FnScope ["cell", "rest"] ["cell"] (defScope st__law_size) := ⟨rfl, rfl, rfl, by decide +kernel, rfl, by decide +kernel, by decide +kernel⟩
theorem ok__law_size {P : Program} {w : World} {K : PySem.W.Frag} {mg : Str → Option Value} {base : Heap} {fA : Addr} {fd : FuncData} {dvs : List V} {kws : List (Str × V)} (t : Tx K mg)   (F : FunD K "_law_size" "_law_size" (defArgs st__law_size) (defBody st__law_size) (defScope st__law_size) dvs kws fA fd) :
    FnOk P w K mg base (L2.CX P w) 1 fA fd ["cell"] (spF ⟨K, mg, none⟩ 1 f__law_size 0) := by
  have nd := (sc__law_size).nd
  exact fn_ok (Γ := [0, 0]) (Γ' := [0, 0]) F sc__law_size rfl rfl (fun cdv A outer s H E hr => by
    unfold b__law_size
    exact (ss_cons (s_asg (Γ' := [0, 0]) 1 rfl nd (e_abs (n := 0) t.blt.abs (a_cons (e_var 0) a_nil)) rfl)
 (ss_cons (s_if (Γ' := [0, 0]) rfl (q_cmp (op_eqD hr.units) ob_eq (e_op2 (n := 0) op_mod od_mod (e_op2 (n := 0) op_fdivL od_div (e_var 1) (e_int (n := 0))) (e_int (n := 0))) (e_int (n := 0)) (nomark _))
 (ss_one (s_ret (Γ' := [0, 0]) rfl (e_ix (e_lst (a_cons (e_int (n := 0)) (a_cons (e_int (n := 0)) (a_cons (e_int (n := 0)) (a_cons (e_int (n := 0)) a_nil))))) (e_op2 (n := 0) op_mod od_mod (e_op2 (n := 0) op_fdivL od_div (e_var 1) (e_int (n := 0))) (e_int (n := 0))))))
 (ss_nil))
 (ss_one (s_ret (Γ' := [0, 0]) rfl (e_ix (e_lst (a_cons (e_int (n := 0)) (a_cons (e_int (n := 0)) (a_cons (e_int (n := 0)) (a_cons (e_int (n := 0)) (a_cons (e_int (n := 0)) a_nil)))))) (e_op2 (n := 0) op_mod od_mod (e_var 1) (e_int (n := 0)))))))))
abbrev st_inverse : Stmt := top 6
theorem sc_inverse : FnScope ["a", "k", "old", "now", "before", "here", "part"] ["a", "k"] (defScope st_inverse) := ⟨rfl, rfl, rfl, by decide +kernel, rfl, by decide +kernel, by decide +kernel⟩
theorem ok_inverse {P : Program} {w : World} {K : PySem.W.Frag} {mg : Str → Option Value} {base : Heap} {fA : Addr} {fd : FuncData} {dvs : List V} {kws : List (Str × V)} (t : Tx K mg) {C_NotThere : Addr} (g_NotThere : mg "NotThere" = some (.ref C_NotThere)) (c_check_modulus : FnS P w K mg base "check_modulus" 1 1 f_check_modulus 0 []) (F : FunD K "inverse" "inverse" (defArgs st_inverse) (defBody st_inverse) (defScope st_inverse) dvs kws fA fd) :
    FnOk P w K mg base (L2.CX P w) 2 fA fd ["a", "k"] (spF ⟨K, mg, none⟩ 2 f_inverse 0) := by
  have nd := (sc_inverse).nd
  exact fn_ok (Γ := [0, 0, 0, 0, 0, 0, 0]) (Γ' := [0, 0, 0, 0, 0, 0, 0]) F sc_inverse rfl rfl (fun cdv A outer s H E hr => by
    unfold b_inverse w_inverse_0 q_inverse_0
    exact (ss_cons (s_expr rfl (e_fn c_check_modulus hr (by decide) (takes_of rfl rfl rfl rfl) (a_cons (e_var 1) a_nil) (al_cons al_nil)))
 (ss_cons (s_par 2 3 rfl rfl nd (e_var 1) (e_op2 (n := 0) op_mod od_mod (e_var 0) (e_var 1)))
 (ss_cons (s_asgT rfl (e_tup (n := 0) (a_cons (e_int (n := 0)) (a_cons (e_int (n := 0)) a_nil))) (g_tup rfl (gs_cons (g_name 4 nd) (gs_cons (g_name 5 nd) gs_nil)) (bl_cons (bl_cons bl_nil))))
 (ss_cons (s_while [false, false, false, false, false, false, false] rfl (passes_of rfl) (q_cmp op_gt opd_B0 (e_var 3) (e_int (n := 0)) (nomark _)) (Γ' := [0, 0, 0, 0, 0, 0, 0]) rfl
 (ss_cons (s_asg (Γ' := [0, 0, 0, 0, 0, 0, 0]) 6 rfl nd (e_op2 (n := 0) op_fdivL od_div (e_var 2) (e_var 3)) rfl)
 (ss_cons (s_par 2 3 rfl rfl nd (e_var 3) (e_op2 (n := 0) op_sub od_sub (e_var 2) (e_op2 op_mulD od_mul (e_var 6) (e_var 3))))
 (ss_one (s_par 4 5 rfl rfl nd (e_var 5) (e_op2 (n := 0) op_sub od_sub (e_var 4) (e_op2 op_mulD od_mul (e_var 6) (e_var 5))))))))
 (ss_cons (s_if (Γ' := [0, 0, 0, 0, 0, 0, 0]) rfl (q_cmp (op_neD hr.units) ob_ne (e_var 2) (e_int (n := 0)) (nomark _))
 (ss_one (s_raise (Γ' := [0, 0, 0, 0, 0, 0, 0]) .notThere rfl rfl rfl (takes_of rfl rfl rfl rfl) (t.er.erc .notThere _ g_NotThere rfl)))
 (ss_nil))
 (ss_one (s_ret (Γ' := [0, 0, 0, 0, 0, 0, 0]) rfl (e_op2 (n := 0) op_mod od_mod (e_var 4) (e_var 1))))))))))
abbrev st_power : Stmt := top 7
theorem sc_power : FnScope ["a", "exponent", "k", "result"] ["a", "exponent", "k"] (defScope st_power) := ⟨rfl, rfl, rfl, by decide +kernel, rfl, by decide +kernel, by decide +kernel⟩
theorem ok_power {P : Program} {w : World} {K : PySem.W.Frag} {mg : Str → Option Value} {base : Heap} {fA : Addr} {fd : FuncData} {dvs : List V} {kws : List (Str × V)} (t : Tx K mg) {C_OutOfRange : Addr} (g_OutOfRange : mg "OutOfRange" = some (.ref C_OutOfRange)) (c_check_modulus : FnS P w K mg base "check_modulus" 1 1 f_check_modulus 0 []) (F : FunD K "power" "power" (defArgs st_power) (defBody st_power) (defScope st_power) dvs kws fA fd) :
    FnOk P w K mg base (L2.CX P w) 2 fA fd ["a", "exponent", "k"] (spF ⟨K, mg, none⟩ 3 f_power 0) := by
  have nd := (sc_power).nd
  exact fn_ok (Γ := [0, 0, 0, 0]) (Γ' := [0, 0, 0, 0]) F sc_power rfl rfl (fun cdv A outer s H E hr => by
    unfold b_power w_power_0 q_power_0
    exact (ss_cons (s_if (Γ' := [0, 0, 0, 0]) rfl (q_cmp op_lt opd_B0 (e_var 1) (e_int (n := 0)) (nomark _))
 (ss_one (s_raise (Γ' := [0, 0, 0, 0]) .range rfl rfl rfl (takes_of rfl rfl rfl rfl) (t.er.erc .range _ g_OutOfRange rfl)))
 (ss_nil))
 (ss_cons (s_expr rfl (e_fn c_check_modulus hr (by decide) (takes_of rfl rfl rfl rfl) (a_cons (e_var 2) a_nil) (al_cons al_nil)))
 (ss_cons (s_asg (Γ' := [0, 0, 0, 0]) 3 rfl nd (e_op2 (n := 0) op_mod od_mod (e_int (n := 0)) (e_var 2)) rfl)
 (ss_cons (s_asg (Γ' := [0, 0, 0, 0]) 0 rfl nd (e_op2 (n := 0) op_mod od_mod (e_var 0) (e_var 2)) rfl)
 (ss_cons (s_while [false, false, false, false] rfl (passes_of rfl) (q_cmp op_gt opd_B0 (e_var 1) (e_int (n := 0)) (nomark _)) (Γ' := [0, 0, 0, 0]) rfl
 (ss_cons (s_if (Γ' := [0, 0, 0, 0]) rfl (q_cmp (op_eqD hr.units) ob_eq (e_op2 (n := 0) op_and od_and (e_var 1) (e_int (n := 0))) (e_int (n := 0)) (nomark _))
 (ss_one (s_asg (Γ' := [0, 0, 0, 0]) 3 rfl nd (e_op2 (n := 0) op_mod od_mod (e_op2 op_mulD od_mul (e_var 3) (e_var 0)) (e_var 2)) rfl))
 (ss_nil))
 (ss_cons (s_asg (Γ' := [0, 0, 0, 0]) 0 rfl nd (e_op2 (n := 0) op_mod od_mod (e_op2 op_mulD od_mul (e_var 0) (e_var 0)) (e_var 2)) rfl)
 (ss_one (s_asg (Γ' := [0, 0, 0, 0]) 1 rfl nd (e_op2 (n := 0) op_shr od_shr (e_var 1) (e_int (n := 0))) rfl)))))
 (ss_one (s_ret (Γ' := [0, 0, 0, 0]) rfl (e_var 3)))))))))
abbrev st_check_prime : Stmt := top 12
theorem sc_check_prime : FnScope ["prime", "size"] ["prime", "size"] (defScope st_check_prime) := ⟨rfl, rfl, rfl, by decide +kernel, rfl, by decide +kernel, by decide +kernel⟩
theorem ok_check_prime {P : Program} {w : World} {K : PySem.W.Frag} {mg : Str → Option Value} {base : Heap} {fA : Addr} {fd : FuncData} {dvs : List V} {kws : List (Str × V)} (t : Tx K mg) {C_NotThere : Addr} (g_NotThere : mg "NotThere" = some (.ref C_NotThere)) (c_is_prime : FnS P w K mg base "is_prime" 1 1 f_is_prime 0 []) (F : FunD K "check_prime" "check_prime" (defArgs st_check_prime) (defBody st_check_prime) (defScope st_check_prime) dvs kws fA fd) :
    FnOk P w K mg base (L2.CX P w) 2 fA fd ["prime", "size"] (spF ⟨K, mg, none⟩ 2 f_check_prime 0) := by
  have nd := (sc_check_prime).nd
  exact fn_ok (Γ := [0, 0]) (Γ' := [0, 0]) F sc_check_prime rfl rfl (fun cdv A outer s H E hr => by
    unfold b_check_prime
    exact (ss_one (s_if (Γ' := [0, 0]) rfl (q_w (w_or (q_cmp op_lt opd_B0 (e_var 0) (e_int (n := 0)) (nomark _)) (w_or (q_cmp op_ge opd_B0 (e_var 0) (e_op2 (n := 0) op_shlW od_shl (e_int (n := 0)) (e_int (n := 0))) (nomark _)) (w_or (q_cmp (op_neD hr.units) ob_ne (e_op2 (n := 0) op_mod od_mod (e_var 0) (e_op2 op_mulD od_mul (e_int (n := 0)) (e_var 1))) (e_int (n := 0)) (nomark _)) (w_or1 (q_not (q_tru (e_fn c_is_prime hr (by decide) (takes_of rfl rfl rfl rfl) (a_cons (e_var 0) a_nil) (al_cons al_nil)))))))))
 (ss_one (s_raise (Γ' := [0, 0]) .notThere rfl rfl rfl (takes_of rfl rfl rfl rfl) (t.er.erc .notThere _ g_NotThere rfl)))
 (ss_nil))))
abbrev st_transform_primes : Stmt := top 14
theorem sc_transform_primes : FnScope ["size", "count", "least", "step", "number", "found"] ["size", "count", "least"] (defScope st_transform_primes) := ⟨rfl, rfl, rfl, by decide +kernel, rfl, by decide +kernel, by decide +kernel⟩
theorem ok_transform_primes {P : Program} {w : World} {K : PySem.W.Frag} {mg : Str → Option Value} {base : Heap} {fA : Addr} {fd : FuncData} {dvs : List V} {kws : List (Str × V)} (t : Tx K mg) {C_OutOfRange : Addr} (g_OutOfRange : mg "OutOfRange" = some (.ref C_OutOfRange)) (c_check_size : FnS P w K mg base "check_size" 1 1 f_check_size 0 []) (c_is_prime : FnS P w K mg base "is_prime" 1 1 f_is_prime 0 []) (F : FunD K "transform_primes" "transform_primes" (defArgs st_transform_primes) (defBody st_transform_primes) (defScope st_transform_primes) dvs kws fA fd) :
    FnOk P w K mg base (L2.CX P w) 2 fA fd ["size", "count", "least"] (spF ⟨K, mg, none⟩ 3 f_transform_primes 0) := by
  have nd := (sc_transform_primes).nd
  exact fn_ok (Γ := [0, 0, 0, 0, 0, 0]) (Γ' := [0, 0, 0, 0, 0, 0]) F sc_transform_primes rfl rfl (fun cdv A outer s H E hr => by
    unfold b_transform_primes w_transform_primes_0 q_transform_primes_0
    exact (ss_cons (s_expr rfl (e_fn c_check_size hr (by decide) (takes_of rfl rfl rfl rfl) (a_cons (e_var 0) a_nil) (al_cons al_nil)))
 (ss_cons (s_if (Γ' := [0, 0, 0, 0, 0, 0]) rfl (q_not (q_chain op_le op_le opd_B0 opd_B0 (e_int (n := 0)) (e_var 1) (e_int (n := 0))))
 (ss_one (s_raise (Γ' := [0, 0, 0, 0, 0, 0]) .range rfl rfl rfl (takes_of rfl rfl rfl rfl) (t.er.erc .range _ g_OutOfRange rfl)))
 (ss_nil))
 (ss_cons (s_if (Γ' := [0, 0, 0, 0, 0, 0]) rfl (q_cmp op_gt opd_B0 (e_var 2) (e_op2 (n := 0) op_shlW od_shl (e_int (n := 0)) (e_int (n := 0))) (nomark _))
 (ss_one (s_raise (Γ' := [0, 0, 0, 0, 0, 0]) .range rfl rfl rfl (takes_of rfl rfl rfl rfl) (t.er.erc .range _ g_OutOfRange rfl)))
 (ss_nil))
 (ss_cons (s_asg (Γ' := [0, 0, 0, 0, 0, 0]) 3 rfl nd (e_fz (e_op2 op_mulD od_mul (e_int (n := 0)) (e_var 0))) rfl)
 (ss_cons (s_asg (Γ' := [0, 0, 0, 0, 0, 0]) 4 rfl nd (e_fz (e_op2 op_addD od_add (e_op2 op_mulD od_mul (e_max2 (n := 0) t.blt.max (a_cons (e_int (n := 0)) (a_cons (e_op2 (n := 0) op_fdivL od_div (e_op2 (n := 0) op_sub od_sub (e_op2 op_addD od_add (e_var 2) (e_var 3)) (e_int (n := 0))) (e_var 3)) a_nil))) (e_var 3)) (e_int (n := 0)))) rfl)
 (ss_cons (s_asg (Γ' := [0, 0, 0, 0, 0, 1]) 5 rfl nd (e_lst a_nil) rfl)
 (ss_cons (s_while [false, false, false, false, false, false] rfl (passes_of rfl) (q_cmp op_lt opd_B0 (e_lenO (n := 0) 5 t.blt.len) (e_var 1) (nomark _)) (Γ' := [0, 0, 0, 0, 0, 0]) rfl
 (ss_cons (s_if (Γ' := [0, 0, 0, 0, 0, 1]) rfl (q_tru (e_fn c_is_prime hr (by decide) (takes_of rfl rfl rfl rfl) (a_cons (e_var 4) a_nil) (al_cons al_nil)))
 (ss_one (s_app 5 rfl (e_var 4)))
 (ss_nil))
 (ss_one (s_asg (Γ' := [0, 0, 0, 0, 0, 1]) 4 rfl nd (e_fz (e_op2 op_addD od_add (e_var 4) (e_var 3))) rfl))))
 (ss_one (s_ret (Γ' := [0, 0, 0, 0, 0, 0]) rfl (e_var 5)))))))))))
abbrev st__law_is_list : Stmt := top 21
theorem sc__law_is_list : FnScope ["actual", "due", "one", "other"] ["actual", "due"] (defScope st__law_is_list) := ⟨rfl, rfl, rfl, by decide +kernel, rfl, by decide +kernel, by decide +kernel⟩
theorem ok__law_is_list {P : Program} {w : World} {K : PySem.W.Frag} {mg : Str → Option Value} {base : Heap} {fA : Addr} {fd : FuncData} {dvs : List V} {kws : List (Str × V)} (t : Tx K mg)  (c__law_integer : FnS P w K mg base "_law_integer" 1 1 f__law_integer 0 []) (F : FunD K "_law_is_list" "_law_is_list" (defArgs st__law_is_list) (defBody st__law_is_list) (defScope st__law_is_list) dvs kws fA fd) :
    FnOk P w K mg base (L2.CX P w) 2 fA fd ["actual", "due"] (spF ⟨K, mg, none⟩ 2 f__law_is_list 0) := by
  have nd := (sc__law_is_list).nd
  exact fn_ok (Γ := [0, 0, 0, 0]) (Γ' := [0, 0, 0, 0]) F sc__law_is_list rfl rfl (fun cdv A outer s H E hr => by
    unfold b__law_is_list w__law_is_list_0
    exact (ss_cons (s_if (Γ' := [0, 0, 0, 0]) rfl (q_w (w_or (q_not (q_tru (e_isTy (n := 0) t.blt.isi t.blt.list bt_list (e_var 0)))) (w_or1 (q_cmp (op_neD hr.units) ob_ne (e_len (n := 0) t.blt.len (a_cons (e_var 0) a_nil)) (e_len (n := 0) t.blt.len (a_cons (e_var 1) a_nil)) (nomark _)))))
 (ss_one (s_ret (Γ' := [0, 0, 0, 0]) rfl (e_bl (n := 0))))
 (ss_nil))
 (ss_cons (s_for [false, false, false, false] rfl (passes_of rfl) rfl (i_zip t.blt.zip (e_var 0) (e_var 1)) (g_tup rfl (gs_cons (g_name 2 nd) (gs_cons (g_name 3 nd) gs_nil)) (bl_cons (bl_cons bl_nil))) (Γ' := [0, 0, 0, 0]) rfl
 (ss_one (s_if (Γ' := [0, 0, 0, 0]) rfl (q_w (w_or (q_not (q_tru (e_fn c__law_integer hr (by decide) (takes_of rfl rfl rfl rfl) (a_cons (e_var 2) a_nil) (al_cons al_nil)))) (w_or1 (q_cmp (op_neD hr.units) ob_ne (e_var 2) (e_var 3) (nomark _)))))
 (ss_one (s_ret (Γ' := [0, 0, 0, 0]) rfl (e_bl (n := 0))))
 (ss_nil))))
 (ss_one (s_ret (Γ' := [0, 0, 0, 0]) rfl (e_bl (n := 0)))))))
abbrev st__law_wide : Stmt := top 22
theorem sc__law_wide : FnScope ["cell", "k", "most", "number", "j"] ["cell", "k", "most"] (defScope st__law_wide) := ⟨rfl, rfl, rfl, by decide +kernel, rfl, by decide +kernel, by decide +kernel⟩
theorem ok__law_wide {P : Program} {w : World} {K : PySem.W.Frag} {mg : Str → Option Value} {base : Heap} {fA : Addr} {fd : FuncData} {dvs : List V} {kws : List (Str × V)} (t : Tx K mg)  (c__law_mixed : FnS P w K mg base "_law_mixed" 1 2 f__law_mixed 0 []) (F : FunD K "_law_wide" "_law_wide" (defArgs st__law_wide) (defBody st__law_wide) (defScope st__law_wide) dvs kws fA fd) :
    FnOk P w K mg base (L2.CX P w) 2 fA fd ["cell", "k", "most"] (spF ⟨K, mg, none⟩ 3 f__law_wide 0) := by
  have nd := (sc__law_wide).nd
  exact fn_ok (Γ := [0, 0, 0, 0, 0]) (Γ' := [0, 0, 0, 0, 0]) F sc__law_wide rfl rfl (fun cdv A outer s H E hr => by
    unfold b__law_wide w__law_wide_0
    exact (ss_cons (s_asg (Γ' := [0, 0, 0, 0, 0]) 3 rfl nd (e_fz (e_op2 op_addD od_add (e_op2 op_mulD od_mul (e_fn c__law_mixed hr (by decide) (takes_of rfl rfl rfl rfl) (a_cons (e_var 0) (a_cons (e_var 1) a_nil)) (al_cons (al_cons al_nil))) (e_int (n := 0))) (e_fn c__law_mixed hr (by decide) (takes_of rfl rfl rfl rfl) (a_cons (e_var 0) (a_cons (e_op2 op_addD od_add (e_var 1) (e_int (n := 0))) a_nil)) (al_cons (al_cons al_nil))))) rfl)
 (ss_cons (s_if (Γ' := [0, 0, 0, 0, 0]) rfl (q_cmp op_ge opd_B0 (e_var 2) (e_op2 (n := 0) op_shlW od_shl (e_int (n := 0)) (e_int (n := 0))) (nomark _))
 (ss_one (s_for [false, false, false, false, false] rfl (passes_of rfl) rfl (i_range2 t.blt.range (e_int (n := 0)) (e_int (n := 0))) (g_name 4 nd) (Γ' := [0, 0, 0, 0, 0]) rfl
 (ss_one (s_asg (Γ' := [0, 0, 0, 0, 0]) 3 rfl nd (e_fz (e_op2 op_addD od_add (e_op2 op_mulD od_mul (e_var 3) (e_int (n := 0))) (e_fn c__law_mixed hr (by decide) (takes_of rfl rfl rfl rfl) (a_cons (e_var 0) (a_cons (e_op2 op_addD od_add (e_var 1) (e_op2 op_mulD od_mul (e_int (n := 0)) (e_var 4))) a_nil)) (al_cons (al_cons al_nil))))) rfl))))
 (ss_nil))
 (ss_one (s_ret (Γ' := [0, 0, 0, 0, 0]) rfl (e_int' (n := 0) t.blt.int (a_cons (e_var 3) a_nil)))))))
abbrev st__law_primes : Stmt := top 25
theorem sc__law_primes : FnScope ["size", "count", "least", "found", "number", "turn"] ["size", "count", "least"] (defScope st__law_primes) := ⟨rfl, rfl, rfl, by decide +kernel, rfl, by decide +kernel, by decide +kernel⟩
theorem ok__law_primes {P : Program} {w : World} {K : PySem.W.Frag} {mg : Str → Option Value} {base : Heap} {fA : Addr} {fd : FuncData} {dvs : List V} {kws : List (Str × V)} (t : Tx K mg)  (c__law_is_prime : FnS P w K mg base "_law_is_prime" 1 1 f__law_is_prime 0 []) (F : FunD K "_law_primes" "_law_primes" (defArgs st__law_primes) (defBody st__law_primes) (defScope st__law_primes) dvs kws fA fd) :
    FnOk P w K mg base (L2.CX P w) 2 fA fd ["size", "count", "least"] (spF ⟨K, mg, none⟩ 3 f__law_primes 0) := by
  have nd := (sc__law_primes).nd
  exact fn_ok (Γ := [0, 0, 0, 0, 0, 0]) (Γ' := [0, 0, 0, 0, 0, 0]) F sc__law_primes rfl rfl (fun cdv A outer s H E hr => by
    unfold b__law_primes w__law_primes_0
    exact (ss_cons (s_asg (Γ' := [0, 0, 0, 1, 0, 0]) 3 rfl nd (e_lst a_nil) rfl)
 (ss_cons (s_asg (Γ' := [0, 0, 0, 1, 0, 0]) 4 rfl nd (e_max2 (n := 0) t.blt.max (a_cons (e_var 2) (a_cons (e_int (n := 0)) a_nil))) rfl)
 (ss_cons (s_for [false, false, false, false, false, false] rfl (passes_of rfl) rfl (i_range1 t.blt.range (e_int (n := 0))) (g_name 5 nd) (Γ' := [0, 0, 0, 0, 0, 0]) rfl
 (ss_cons (s_if (Γ' := [0, 0, 0, 1, 0, 0]) rfl (q_cmp (op_eqD hr.units) ob_eq (e_lenO (n := 0) 3 t.blt.len) (e_var 1) (nomark _))
 (ss_fz [false, false, false, false, false, false] rfl (Γ1 := [0, 0, 0, 0, 0, 0]) (ss_one (s_break (Γ' := [0, 0, 0, 1, 0, 0]) rfl)))
 (ss_nil))
 (ss_cons (s_if (Γ' := [0, 0, 0, 1, 0, 0]) rfl (q_w (w_and (q_cmp (op_eqD hr.units) ob_eq (e_op2 (n := 0) op_mod od_mod (e_int' (n := 0) t.blt.int (a_cons (e_op2 (n := 0) op_sub od_sub (e_var 4) (e_int (n := 0))) a_nil)) (e_op2 op_mulD od_mul (e_int (n := 0)) (e_var 0))) (e_int (n := 0)) (nomark _)) (w_and1 (q_tru (e_fn c__law_is_prime hr (by decide) (takes_of rfl rfl rfl rfl) (a_cons (e_var 4) a_nil) (al_cons al_nil))))))
 (ss_one (s_app 3 rfl (e_var 4)))
 (ss_nil))
 (ss_one (s_asg (Γ' := [0, 0, 0, 1, 0, 0]) 4 rfl nd (e_fz (e_op2 op_addD od_add (e_var 4) (e_int (n := 0)))) rfl)))))
 (ss_one (s_ret (Γ' := [0, 0, 0, 0, 0, 0]) rfl (e_var 3)))))))
abbrev st__law_values : Stmt := top 27
theorem sc__law_values : FnScope ["a", "root", "prime", "values", "i", "point", "value", "one"] ["a", "root", "prime"] (defScope st__law_values) := ⟨rfl, rfl, rfl, by decide +kernel, rfl, by decide +kernel, by decide +kernel⟩
theorem ok__law_values {P : Program} {w : World} {K : PySem.W.Frag} {mg : Str → Option Value} {base : Heap} {fA : Addr} {fd : FuncData} {dvs : List V} {kws : List (Str × V)} (t : Tx K mg)  (c__law_power : FnS P w K mg base "_law_power" 1 3 f__law_power 0 []) (F : FunD K "_law_values" "_law_values" (defArgs st__law_values) (defBody st__law_values) (defScope st__law_values) dvs kws fA fd) :
    FnOk P w K mg base (L2.CX P w) 2 fA fd ["a", "root", "prime"] (spF ⟨K, mg, none⟩ 3 f__law_values 0) := by
  have nd := (sc__law_values).nd
  exact fn_ok (Γ := [0, 0, 0, 0, 0, 0, 0, 0]) (Γ' := [0, 0, 0, 0, 0, 0, 0, 0]) F sc__law_values rfl rfl (fun cdv A outer s H E hr => by
    unfold b__law_values w__law_values_1 w__law_values_0
    exact (ss_cons (s_asg (Γ' := [0, 0, 0, 1, 0, 0, 0, 0]) 3 rfl nd (e_lst a_nil) rfl)
 (ss_cons (s_for [false, false, false, false, false, false, false, false] rfl (passes_of rfl) rfl (i_range1 t.blt.range (e_len (n := 0) t.blt.len (a_cons (e_var 0) a_nil))) (g_name 4 nd) (Γ' := [0, 0, 0, 0, 0, 0, 0, 0]) rfl
 (ss_cons (s_asg (Γ' := [0, 0, 0, 1, 0, 0, 0, 0]) 5 rfl nd (e_fn c__law_power hr (by decide) (takes_of rfl rfl rfl rfl) (a_cons (e_var 1) (a_cons (e_op2 op_addD od_add (e_op2 op_mulD od_mul (e_int (n := 0)) (e_var 4)) (e_int (n := 0))) (a_cons (e_var 2) a_nil))) (al_cons (al_cons (al_cons al_nil)))) rfl)
 (ss_cons (s_asg (Γ' := [0, 0, 0, 1, 0, 0, 0, 0]) 6 rfl nd (e_int (n := 0)) rfl)
 (ss_cons (s_for [false, false, false, true, false, false, false, false] rfl (passes_of rfl) rfl (i_rev t.blt.reversed (e_var 0)) (g_name 7 nd) (Γ' := [0, 0, 0, 1, 0, 0, 0, 0]) rfl
 (ss_one (s_asg (Γ' := [0, 0, 0, 1, 0, 0, 0, 0]) 6 rfl nd (e_op2 (n := 0) op_mod od_mod (e_int' (n := 0) t.blt.int (a_cons (e_op2 op_addD od_add (e_op2 op_mulD od_mul (e_var 6) (e_var 5)) (e_var 7)) a_nil)) (e_var 2)) rfl)))
 (ss_one (s_app 3 rfl (e_var 6)))))))
 (ss_one (s_ret (Γ' := [0, 0, 0, 0, 0, 0, 0, 0]) rfl (e_var 3))))))
abbrev st_find_root : Stmt := top 13
theorem sc_find_root : FnScope ["prime", "size", "base", "root", "square", "least", "_"] ["prime", "size"] (defScope st_find_root) := ⟨rfl, rfl, rfl, by decide +kernel, rfl, by decide +kernel, by decide +kernel⟩
theorem ok_find_root {P : Program} {w : World} {K : PySem.W.Frag} {mg : Str → Option Value} {base : Heap} {fA : Addr} {fd : FuncData} {dvs : List V} {kws : List (Str × V)} (t : Tx K mg)  (c_check_size : FnS P w K mg base "check_size" 1 1 f_check_size 0 []) (c_check_prime : FnS P w K mg base "check_prime" 2 2 f_check_prime 0 []) (c_power : FnS P w K mg base "power" 2 3 f_power 0 []) (F : FunD K "find_root" "find_root" (defArgs st_find_root) (defBody st_find_root) (defScope st_find_root) dvs kws fA fd) :
    FnOk P w K mg base (L2.CX P w) 3 fA fd ["prime", "size"] (spF ⟨K, mg, none⟩ 2 f_find_root 0) := by
  have nd := (sc_find_root).nd
  exact fn_ok (Γ := [0, 0, 0, 0, 0, 0, 0]) (Γ' := [0, 0, 0, 0, 0, 0, 0]) F sc_find_root rfl rfl (fun cdv A outer s H E hr => by
    unfold b_find_root w_find_root_1 w_find_root_0 q_find_root_0
    exact (ss_cons (s_expr rfl (e_fn c_check_size hr (by decide) (takes_of rfl rfl rfl rfl) (a_cons (e_var 1) a_nil) (al_cons al_nil)))
 (ss_cons (s_expr rfl (e_fn c_check_prime hr (by decide) (takes_of rfl rfl rfl rfl) (a_cons (e_var 0) (a_cons (e_var 1) a_nil)) (al_cons (al_cons al_nil))))
 (ss_cons (s_asg (Γ' := [0, 0, 0, 0, 0, 0, 0]) 2 rfl nd (e_int (n := 0)) rfl)
 (ss_cons (s_while [false, false, false, false, false, false, false] rfl (passes_of rfl) (q_cmp (op_neD hr.units) ob_ne (e_fn c_power hr (by decide) (takes_of rfl rfl rfl rfl) (a_cons (e_var 2) (a_cons (e_op2 (n := 0) op_fdivL od_div (e_op2 (n := 0) op_sub od_sub (e_var 0) (e_int (n := 0))) (e_int (n := 0))) (a_cons (e_var 0) a_nil))) (al_cons (al_cons (al_cons al_nil)))) (e_op2 (n := 0) op_sub od_sub (e_var 0) (e_int (n := 0))) (nomark _)) (Γ' := [0, 0, 0, 0, 0, 0, 0]) rfl
 (ss_one (s_asg (Γ' := [0, 0, 0, 0, 0, 0, 0]) 2 rfl nd (e_fz (e_op2 op_addD od_add (e_var 2) (e_int (n := 0)))) rfl)))
 (ss_cons (s_asg (Γ' := [0, 0, 0, 0, 0, 0, 0]) 3 rfl nd (e_fn c_power hr (by decide) (takes_of rfl rfl rfl rfl) (a_cons (e_var 2) (a_cons (e_op2 (n := 0) op_fdivL od_div (e_op2 (n := 0) op_sub od_sub (e_var 0) (e_int (n := 0))) (e_op2 op_mulD od_mul (e_int (n := 0)) (e_var 1))) (a_cons (e_var 0) a_nil))) (al_cons (al_cons (al_cons al_nil)))) rfl)
 (ss_cons (s_asg (Γ' := [0, 0, 0, 0, 0, 0, 0]) 4 rfl nd (e_op2 (n := 0) op_mod od_mod (e_op2 op_mulD od_mul (e_var 3) (e_var 3)) (e_var 0)) rfl)
 (ss_cons (s_asg (Γ' := [0, 0, 0, 0, 0, 0, 0]) 5 rfl nd (e_var 3) rfl)
 (ss_cons (s_for [false, false, false, false, false, false, false] rfl (passes_of rfl) rfl (i_range1 t.blt.range (e_op2 (n := 0) op_sub od_sub (e_var 1) (e_int (n := 0)))) (g_name 6 nd) (Γ' := [0, 0, 0, 0, 0, 0, 0]) rfl
 (ss_cons (s_asg (Γ' := [0, 0, 0, 0, 0, 0, 0]) 3 rfl nd (e_op2 (n := 0) op_mod od_mod (e_op2 op_mulD od_mul (e_var 3) (e_var 4)) (e_var 0)) rfl)
 (ss_one (s_asg (Γ' := [0, 0, 0, 0, 0, 0, 0]) 5 rfl nd (e_min2 (n := 0) t.blt.min (a_cons (e_var 5) (a_cons (e_var 3) a_nil))) rfl))))
 (ss_one (s_ret (Γ' := [0, 0, 0, 0, 0, 0, 0]) rfl (e_var 5))))))))))))
abbrev st__law_poly : Stmt := top 23
theorem sc__law_poly : FnScope ["cell", "size", "most", "left", "great", "row", "k"] ["cell", "size", "most"] (defScope st__law_poly) := ⟨rfl, rfl, rfl, by decide +kernel, rfl, by decide +kernel, by decide +kernel⟩
theorem ok__law_poly {P : Program} {w : World} {K : PySem.W.Frag} {mg : Str → Option Value} {base : Heap} {fA : Addr} {fd : FuncData} {dvs : List V} {kws : List (Str × V)} (t : Tx K mg)  (c__law_wide : FnS P w K mg base "_law_wide" 2 3 f__law_wide 0 []) (F : FunD K "_law_poly" "_law_poly" (defArgs st__law_poly) (defBody st__law_poly) (defScope st__law_poly) dvs kws fA fd) :
    FnOk P w K mg base (L2.CX P w) 3 fA fd ["cell", "size", "most"] (spF ⟨K, mg, none⟩ 3 f__law_poly 0) := by
  have nd := (sc__law_poly).nd
  exact fn_ok (Γ := [0, 0, 0, 0, 0, 0, 0]) (Γ' := [0, 0, 0, 0, 0, 0, 0]) F sc__law_poly rfl rfl (fun cdv A outer s H E hr => by
    unfold b__law_poly w__law_poly_0
    exact (ss_cons (s_asg (Γ' := [0, 0, 0, 0, 0, 0, 0]) 3 rfl nd (e_abs (n := 0) t.blt.abs (a_cons (e_int' (n := 0) t.blt.int (a_cons (e_var 0) a_nil)) a_nil)) rfl)
 (ss_cons (s_asg (Γ' := [0, 0, 0, 0, 0, 0, 0]) 4 rfl nd (e_cmp (n := 0) op_ge opd_B0 (e_var 3) (e_op2 (n := 0) op_pow od_pow (e_int (n := 0)) (e_int (n := 0))) (nomark _)) rfl)
 (ss_cons (s_asg (Γ' := [0, 0, 0, 0, 0, 1, 0]) 5 rfl nd (e_lst a_nil) rfl)
 (ss_cons (s_for [false, false, false, false, false, false, false] rfl (passes_of rfl) rfl (i_range1 t.blt.range (e_var 1)) (g_name 6 nd) (Γ' := [0, 0, 0, 0, 0, 0, 0]) rfl
 (ss_one (s_if (Γ' := [0, 0, 0, 0, 0, 1, 0]) rfl (q_w (w_and (q_tru (e_var 4)) (w_and1 (q_cmp op_gt opd_B0 (e_var 3) (e_int (n := 0)) (nomark _)))))
 (ss_cons (s_app 5 rfl (e_op2 (n := 0) op_sub od_sub (e_int' (n := 0) t.blt.int (a_cons (e_op2 (n := 0) op_mod od_mod (e_var 3) (e_op2 op_addD od_add (e_op2 op_mulD od_mul (e_int (n := 0)) (e_var 2)) (e_int (n := 0)))) a_nil)) (e_var 2)))
 (ss_one (s_asg (Γ' := [0, 0, 0, 0, 0, 1, 0]) 3 rfl nd (e_op2 (n := 0) op_fdivL od_div (e_var 3) (e_op2 op_addD od_add (e_op2 op_mulD od_mul (e_int (n := 0)) (e_var 2)) (e_int (n := 0)))) rfl)))
 (ss_one (s_app 5 rfl (e_op2 (n := 0) op_sub od_sub (e_op2 (n := 0) op_mod od_mod (e_fn c__law_wide hr (by decide) (takes_of rfl rfl rfl rfl) (a_cons (e_var 0) (a_cons (e_var 6) (a_cons (e_var 2) a_nil))) (al_cons (al_cons (al_cons al_nil)))) (e_op2 op_addD od_add (e_op2 op_mulD od_mul (e_int (n := 0)) (e_var 2)) (e_int (n := 0)))) (e_var 2)))))))
 (ss_one (s_ret (Γ' := [0, 0, 0, 0, 0, 0, 0]) rfl (e_var 5))))))))
abbrev st_transform : Stmt := top 15
theorem sc_transform : FnScope ["a", "prime", "root", "square", "values", "point", "_", "value", "one"] ["a", "prime"] (defScope st_transform) := ⟨rfl, rfl, rfl, by decide +kernel, rfl, by decide +kernel, by decide +kernel⟩
theorem ok_transform {P : Program} {w : World} {K : PySem.W.Frag} {mg : Str → Option Value} {base : Heap} {fA : Addr} {fd : FuncData} {dvs : List V} {kws : List (Str × V)} (t : Tx K mg)  (c_find_root : FnS P w K mg base "find_root" 3 2 f_find_root 0 []) (F : FunD K "transform" "transform" (defArgs st_transform) (defBody st_transform) (defScope st_transform) dvs kws fA fd) :
    FnOk P w K mg base (L2.CX P w) 4 fA fd ["a", "prime"] (spF ⟨K, mg, none⟩ 2 f_transform 0) := by
  have nd := (sc_transform).nd
  exact fn_ok (Γ := [0, 0, 0, 0, 0, 0, 0, 0, 0]) (Γ' := [0, 0, 0, 0, 0, 0, 0, 0, 0]) F sc_transform rfl rfl (fun cdv A outer s H E hr => by
    unfold b_transform w_transform_1 w_transform_0
    exact (ss_cons (s_asg (Γ' := [0, 0, 0, 0, 0, 0, 0, 0, 0]) 2 rfl nd (e_fn c_find_root hr (by decide) (takes_of rfl rfl rfl rfl) (a_cons (e_var 1) (a_cons (e_len (n := 0) t.blt.len (a_cons (e_var 0) a_nil)) a_nil)) (al_cons (al_cons al_nil))) rfl)
 (ss_cons (s_asg (Γ' := [0, 0, 0, 0, 0, 0, 0, 0, 0]) 3 rfl nd (e_op2 (n := 0) op_mod od_mod (e_op2 op_mulD od_mul (e_var 2) (e_var 2)) (e_var 1)) rfl)
 (ss_cons (s_asg (Γ' := [0, 0, 0, 0, 1, 0, 0, 0, 0]) 4 rfl nd (e_lst a_nil) rfl)
 (ss_cons (s_asg (Γ' := [0, 0, 0, 0, 1, 0, 0, 0, 0]) 5 rfl nd (e_var 2) rfl)
 (ss_cons (s_for [false, false, false, false, false, false, false, false, false] rfl (passes_of rfl) rfl (i_range1 t.blt.range (e_len (n := 0) t.blt.len (a_cons (e_var 0) a_nil))) (g_name 6 nd) (Γ' := [0, 0, 0, 0, 0, 0, 0, 0, 0]) rfl
 (ss_cons (s_asg (Γ' := [0, 0, 0, 0, 1, 0, 0, 0, 0]) 7 rfl nd (e_int (n := 0)) rfl)
 (ss_cons (s_for [false, false, false, false, true, false, false, false, false] rfl (passes_of rfl) rfl (i_rev t.blt.reversed (e_var 0)) (g_name 8 nd) (Γ' := [0, 0, 0, 0, 1, 0, 0, 0, 0]) rfl
 (ss_one (s_asg (Γ' := [0, 0, 0, 0, 1, 0, 0, 0, 0]) 7 rfl nd (e_op2 (n := 0) op_mod od_mod (e_op2 op_addD od_add (e_op2 op_mulD od_mul (e_var 7) (e_var 5)) (e_var 8)) (e_var 1)) rfl)))
 (ss_cons (s_app 4 rfl (e_var 7))
 (ss_one (s_asg (Γ' := [0, 0, 0, 0, 1, 0, 0, 0, 0]) 5 rfl nd (e_op2 (n := 0) op_mod od_mod (e_op2 op_mulD od_mul (e_var 5) (e_var 3)) (e_var 1)) rfl))))))
 (ss_one (s_ret (Γ' := [0, 0, 0, 0, 0, 0, 0, 0, 0]) rfl (e_var 4)))))))))
abbrev st_transform_back : Stmt := top 16
theorem sc_transform_back : FnScope ["values", "prime", "size", "root", "scale", "result", "place", "step", "weight", "total", "value"] ["values", "prime"] (defScope st_transform_back) := ⟨rfl, rfl, rfl, by decide +kernel, rfl, by decide +kernel, by decide +kernel⟩
theorem ok_transform_back {P : Program} {w : World} {K : PySem.W.Frag} {mg : Str → Option Value} {base : Heap} {fA : Addr} {fd : FuncData} {dvs : List V} {kws : List (Str × V)} (t : Tx K mg)  (c_inverse : FnS P w K mg base "inverse" 2 2 f_inverse 0 []) (c_find_root : FnS P w K mg base "find_root" 3 2 f_find_root 0 []) (c_power : FnS P w K mg base "power" 2 3 f_power 0 []) (F : FunD K "transform_back" "transform_back" (defArgs st_transform_back) (defBody st_transform_back) (defScope st_transform_back) dvs kws fA fd) :
    FnOk P w K mg base (L2.CX P w) 4 fA fd ["values", "prime"] (spF ⟨K, mg, none⟩ 2 f_transform_back 0) := by
  have nd := (sc_transform_back).nd
  exact fn_ok (Γ := [0, 0, 0, 0, 0, 0, 0, 0, 0, 0, 0]) (Γ' := [0, 0, 0, 0, 0, 0, 0, 0, 0, 0, 0]) F sc_transform_back rfl rfl (fun cdv A outer s H E hr => by
    unfold b_transform_back w_transform_back_1 w_transform_back_0
    exact (ss_cons (s_asg (Γ' := [0, 0, 0, 0, 0, 0, 0, 0, 0, 0, 0]) 2 rfl nd (e_len (n := 0) t.blt.len (a_cons (e_var 0) a_nil)) rfl)
 (ss_cons (s_asg (Γ' := [0, 0, 0, 0, 0, 0, 0, 0, 0, 0, 0]) 3 rfl nd (e_fn c_inverse hr (by decide) (takes_of rfl rfl rfl rfl) (a_cons (e_fn c_find_root hr (by decide) (takes_of rfl rfl rfl rfl) (a_cons (e_var 1) (a_cons (e_var 2) a_nil)) (al_cons (al_cons al_nil))) (a_cons (e_var 1) a_nil)) (al_cons (al_cons al_nil))) rfl)
 (ss_cons (s_asg (Γ' := [0, 0, 0, 0, 0, 0, 0, 0, 0, 0, 0]) 4 rfl nd (e_fn c_inverse hr (by decide) (takes_of rfl rfl rfl rfl) (a_cons (e_var 2) (a_cons (e_var 1) a_nil)) (al_cons (al_cons al_nil))) rfl)
 (ss_cons (s_asg (Γ' := [0, 0, 0, 0, 0, 1, 0, 0, 0, 0, 0]) 5 rfl nd (e_lst a_nil) rfl)
 (ss_cons (s_for [false, false, false, false, false, false, false, false, false, false, false] rfl (passes_of rfl) rfl (i_range1 t.blt.range (e_var 2)) (g_name 6 nd) (Γ' := [0, 0, 0, 0, 0, 0, 0, 0, 0, 0, 0]) rfl
 (ss_cons (s_asg (Γ' := [0, 0, 0, 0, 0, 1, 0, 0, 0, 0, 0]) 7 rfl nd (e_fn c_power hr (by decide) (takes_of rfl rfl rfl rfl) (a_cons (e_var 3) (a_cons (e_op2 op_mulD od_mul (e_int (n := 0)) (e_var 6)) (a_cons (e_var 1) a_nil))) (al_cons (al_cons (al_cons al_nil)))) rfl)
 (ss_cons (s_asg (Γ' := [0, 0, 0, 0, 0, 1, 0, 0, 0, 0, 0]) 8 rfl nd (e_fn c_power hr (by decide) (takes_of rfl rfl rfl rfl) (a_cons (e_var 3) (a_cons (e_var 6) (a_cons (e_var 1) a_nil))) (al_cons (al_cons (al_cons al_nil)))) rfl)
 (ss_cons (s_asg (Γ' := [0, 0, 0, 0, 0, 1, 0, 0, 0, 0, 0]) 9 rfl nd (e_int (n := 0)) rfl)
 (ss_cons (s_for [false, false, false, false, false, true, false, false, false, false, false] rfl (passes_of rfl) rfl (i_seq (e_var 0)) (g_name 10 nd) (Γ' := [0, 0, 0, 0, 0, 1, 0, 0, 0, 0, 0]) rfl
 (ss_cons (s_asg (Γ' := [0, 0, 0, 0, 0, 1, 0, 0, 0, 0, 0]) 9 rfl nd (e_op2 (n := 0) op_mod od_mod (e_op2 op_addD od_add (e_var 9) (e_op2 op_mulD od_mul (e_var 10) (e_var 8))) (e_var 1)) rfl)
 (ss_one (s_asg (Γ' := [0, 0, 0, 0, 0, 1, 0, 0, 0, 0, 0]) 8 rfl nd (e_op2 (n := 0) op_mod od_mod (e_op2 op_mulD od_mul (e_var 8) (e_var 7)) (e_var 1)) rfl))))
 (ss_one (s_app 5 rfl (e_op2 (n := 0) op_mod od_mod (e_op2 op_mulD od_mul (e_var 9) (e_var 4)) (e_var 1)))))))))
 (ss_one (s_ret (Γ' := [0, 0, 0, 0, 0, 0, 0, 0, 0, 0, 0]) rfl (e_var 5)))))))))
abbrev st__law_told : Stmt := top 28
theorem sc__law_told : FnScope ["which", "a", "prime", "e"] ["which", "a", "prime"] (defScope st__law_told) := ⟨rfl, rfl, rfl, by decide +kernel, rfl, by decide +kernel, by decide +kernel⟩
theorem ok__law_told {P : Program} {w : World} {K : PySem.W.Frag} {mg : Str → Option Value} {base : Heap} {fA : Addr} {fd : FuncData} {dvs : List V} {kws : List (Str × V)} (t : Tx K mg) {C_NotThere : Addr} (g_NotThere : mg "NotThere" = some (.ref C_NotThere)) {C_OutOfRange : Addr} (g_OutOfRange : mg "OutOfRange" = some (.ref C_OutOfRange)) {C_PurseError : Addr} (g_PurseError : mg "PurseError" = some (.ref C_PurseError)) (c_find_root : FnS P w K mg base "find_root" 3 2 f_find_root 0 []) (c_transform : FnS P w K mg base "transform" 4 2 f_transform 0 []) (c_transform_back : FnS P w K mg base "transform_back" 4 2 f_transform_back 0 []) (c_transform_primes : FnS P w K mg base "transform_primes" 2 3 f_transform_primes 0 []) (F : FunD K "_law_told" "_law_told" (defArgs st__law_told) (defBody st__law_told) (defScope st__law_told) dvs kws fA fd) :
    FnOk P w K mg base (L2.CX P w) 5 fA fd ["which", "a", "prime"] (spF ⟨K, mg, none⟩ 3 f__law_told 0) := by
  have nd := (sc__law_told).nd
  exact fn_ok (Γ := [0, 0, 0, 0]) (Γ' := [0, 0, 0, 0]) F sc__law_told rfl rfl (fun cdv A outer s H E hr => by
    unfold b__law_told
    exact (ss_cons (s_tryAs (Γh := [0, 0, 0, 0]) (Γh' := [0, 0, 0, 0]) (Γ1 := [0, 0, 0, 0]) (Γ' := [0, 0, 0, 0]) [false, false, false, false] .purse 3 t.er rfl rfl rfl nd g_PurseError rfl rfl (takes_of rfl rfl rfl rfl) rfl rfl rfl rfl
 (fun W pn xe tk hp => (ss_one (s_if (Γ' := [0, 0, 0, 0]) rfl (q_cmp (op_eqD hr.units) ob_eq (e_var 0) (e_int (n := 0)) (nomark _))
 (ss_one (s_expr rfl (e_fn c_find_root hr (by decide) tk (a_cons (e_var 2) (a_cons (e_len (n := 0) t.blt.len (a_cons (e_var 1) a_nil)) a_nil)) (al_cons (al_cons al_nil)))))
 (ss_one (s_if (Γ' := [0, 0, 0, 0]) rfl (q_cmp (op_eqD hr.units) ob_eq (e_var 0) (e_int (n := 0)) (nomark _))
 (ss_one (s_expr rfl (e_fn c_transform hr (by decide) tk (a_cons (e_var 1) (a_cons (e_var 2) a_nil)) (al_cons (al_cons al_nil)))))
 (ss_one (s_if (Γ' := [0, 0, 0, 0]) rfl (q_cmp (op_eqD hr.units) ob_eq (e_var 0) (e_int (n := 0)) (nomark _))
 (ss_one (s_expr rfl (e_fn c_transform_back hr (by decide) tk (a_cons (e_var 1) (a_cons (e_var 2) a_nil)) (al_cons (al_cons al_nil)))))
 (ss_one (s_if (Γ' := [0, 0, 0, 0]) rfl (q_cmp (op_eqD hr.units) ob_eq (e_var 0) (e_int (n := 0)) (nomark _))
 (ss_one (s_expr rfl (e_fn c_transform_primes hr (by decide) tk (a_cons (e_len (n := 0) t.blt.len (a_cons (e_var 1) a_nil)) (a_cons (e_var 2) (a_cons (e_int (n := 0)) a_nil))) (al_cons (al_cons (al_cons al_nil))))))
 (ss_one (s_expr rfl (e_fn c_transform_primes hr (by decide) tk (a_cons (e_len (n := 0) t.blt.len (a_cons (e_var 1) a_nil)) (a_cons (e_int (n := 0)) (a_cons (e_var 2) a_nil))) (al_cons (al_cons (al_cons al_nil)))))))))))))))
 (fun a oe pn er AE ho gE hz hf => (ss_cons (s_if (Γ' := [0, 0, 0, 0]) rfl (q_w (w_and (q_tru (e_isEr (n := 0) .notThere 3 t.er hz hf gE ho g_NotThere rfl rfl t.blt.isi)) (w_and1 (q_not (q_tru (e_isEr (n := 0) .range 3 t.er hz hf gE ho g_OutOfRange rfl rfl t.blt.isi))))))
 (ss_one (s_ret (Γ' := [0, 0, 0, 0]) rfl (e_str (n := 0))))
 (ss_nil))
 (ss_cons (s_if (Γ' := [0, 0, 0, 0]) rfl (q_w (w_and (q_tru (e_isEr (n := 0) .range 3 t.er hz hf gE ho g_OutOfRange rfl rfl t.blt.isi)) (w_and1 (q_not (q_tru (e_isEr (n := 0) .notThere 3 t.er hz hf gE ho g_NotThere rfl rfl t.blt.isi))))))
 (ss_one (s_ret (Γ' := [0, 0, 0, 0]) rfl (e_str (n := 0))))
 (ss_nil))
 (ss_one (s_ret (Γ' := [0, 0, 0, 0]) rfl (e_str (n := 0))))))))
 (ss_one (s_ret (Γ' := [0, 0, 0, 0]) rfl (e_str (n := 0))))))
abbrev st__law_bounds : Stmt := top 29
theorem sc__law_bounds : FnScope ["a", "prime", "size", "which", "bad", "right", "row"] ["a", "prime"] (defScope st__law_bounds) := ⟨rfl, rfl, rfl, by decide +kernel, rfl, by decide +kernel, by decide +kernel⟩
theorem ok__law_bounds {P : Program} {w : World} {K : PySem.W.Frag} {mg : Str → Option Value} {base : Heap} {fA : Addr} {fd : FuncData} {dvs : List V} {kws : List (Str × V)} (t : Tx K mg)  (c__law_is_prime : FnS P w K mg base "_law_is_prime" 1 1 f__law_is_prime 0 []) (c__law_told : FnS P w K mg base "_law_told" 5 3 f__law_told 0 []) (F : FunD K "_law_bounds" "_law_bounds" (defArgs st__law_bounds) (defBody st__law_bounds) (defScope st__law_bounds) dvs kws fA fd) :
    FnOk P w K mg base (L2.CX P w) 6 fA fd ["a", "prime"] (spF ⟨K, mg, none⟩ 2 f__law_bounds 0) := by
  have nd := (sc__law_bounds).nd
  exact fn_ok (Γ := [0, 0, 0, 0, 0, 0, 0]) (Γ' := [0, 0, 0, 0, 0, 0, 0]) F sc__law_bounds rfl rfl (fun cdv A outer s H E hr => by
    unfold b__law_bounds w__law_bounds_3 w__law_bounds_2 w__law_bounds_1 w__law_bounds_0
    exact (ss_cons (s_asg (Γ' := [0, 0, 0, 0, 0, 0, 0]) 2 rfl nd (e_len (n := 0) t.blt.len (a_cons (e_var 0) a_nil)) rfl)
 (ss_cons (s_for [false, false, false, false, false, false, false] rfl (passes_of rfl) rfl (i_range1 t.blt.range (e_int (n := 0))) (g_name 3 nd) (Γ' := [0, 0, 0, 0, 0, 0, 0]) rfl
 (ss_cons (s_for [false, false, false, false, false, false, false] rfl (passes_of rfl) rfl (i_seq (e_lst (a_cons (e_op2 op_addD od_add (e_var 1) (e_op2 op_mulD od_mul (e_op2 op_mulD od_mul (e_int (n := 0)) (e_var 2)) (e_int' (n := 0) t.blt.int (a_cons (e_not (n := 0) (e_fn c__law_is_prime hr (by decide) (takes_of rfl rfl rfl rfl) (a_cons (e_op2 op_addD od_add (e_var 1) (e_op2 op_mulD od_mul (e_int (n := 0)) (e_var 2))) a_nil) (al_cons al_nil))) a_nil)))) (a_cons (e_int (n := 0)) (a_cons (e_int (n := 0)) (a_cons (e_int (n := 0)) (a_cons (e_un (n := 0) un_neg ud_neg (e_var 1)) (a_cons (e_int (n := 0)) (a_cons (e_int (n := 0)) (a_cons (e_op2 op_mulD od_mul (e_int (n := 0)) (e_int (n := 0))) a_nil)))))))))) (g_name 4 nd) (Γ' := [0, 0, 0, 0, 0, 0, 0]) rfl
 (ss_cons (s_asg (Γ' := [0, 0, 0, 0, 0, 0, 0]) 5 rfl nd (e_and (e_cmp (n := 0) op_gt opd_B0 (e_var 4) (e_int (n := 0)) (nomark _)) (e_and (e_cmp (n := 0) (op_eqD hr.units) ob_eq (e_op2 (n := 0) op_mod od_mod (e_int' (n := 0) t.blt.int (a_cons (e_var 4) a_nil)) (e_op2 op_mulD od_mul (e_int (n := 0)) (e_var 2))) (e_int (n := 0)) (nomark _)) (e_one (e_fn c__law_is_prime hr (by decide) (takes_of rfl rfl rfl rfl) (a_cons (e_var 4) a_nil) (al_cons al_nil))))) rfl)
 (ss_one (s_if (Γ' := [0, 0, 0, 0, 0, 0, 0]) rfl (q_w (w_and (q_not (q_tru (e_var 5))) (w_and1 (q_cmp (op_neD hr.units) ob_ne (e_fn c__law_told hr (by decide) (takes_of rfl rfl rfl rfl) (a_cons (e_var 3) (a_cons (e_var 0) (a_cons (e_var 4) a_nil))) (al_cons (al_cons (al_cons al_nil)))) (e_str (n := 0)) (nomark _)))))
 (ss_one (s_ret (Γ' := [0, 0, 0, 0, 0, 0, 0]) rfl (e_bl (n := 0))))
 (ss_nil)))))
 (ss_one (s_for [false, false, false, false, false, false, false] rfl (passes_of rfl) rfl (i_seq (e_lst (a_cons (e_lst (a_cons (e_int (n := 0)) (a_cons (e_int (n := 0)) (a_cons (e_int (n := 0)) a_nil)))) (a_cons (e_op2 op_mulD od_mul (e_lst (a_cons (e_int (n := 0)) a_nil)) (e_int (n := 0))) a_nil)))) (g_name 6 nd) (Γ' := [0, 0, 0, 0, 0, 0, 0]) rfl
 (ss_one (s_if (Γ' := [0, 0, 0, 0, 0, 0, 0]) rfl (q_cmp (op_neD hr.units) ob_ne (e_fn c__law_told hr (by decide) (takes_of rfl rfl rfl rfl) (a_cons (e_var 3) (a_cons (e_var 6) (a_cons (e_var 1) a_nil))) (al_cons (al_cons (al_cons al_nil)))) (e_str (n := 0)) (nomark _))
 (ss_one (s_ret (Γ' := [0, 0, 0, 0, 0, 0, 0]) rfl (e_bl (n := 0))))
 (ss_nil)))))))
 (ss_cons (s_for [false, false, false, false, false, false, false] rfl (passes_of rfl) rfl (i_seq (e_lst (a_cons (e_int (n := 0)) (a_cons (e_int (n := 0)) (a_cons (e_un (n := 0) un_neg ud_neg (e_int (n := 0))) a_nil))))) (g_name 4 nd) (Γ' := [0, 0, 0, 0, 0, 0, 0]) rfl
 (ss_one (s_if (Γ' := [0, 0, 0, 0, 0, 0, 0]) rfl (q_cmp (op_neD hr.units) ob_ne (e_fn c__law_told hr (by decide) (takes_of rfl rfl rfl rfl) (a_cons (e_int (n := 0)) (a_cons (e_var 0) (a_cons (e_var 4) a_nil))) (al_cons (al_cons (al_cons al_nil)))) (e_str (n := 0)) (nomark _))
 (ss_one (s_ret (Γ' := [0, 0, 0, 0, 0, 0, 0]) rfl (e_bl (n := 0))))
 (ss_nil))))
 (ss_one (s_ret (Γ' := [0, 0, 0, 0, 0, 0, 0]) rfl (e_and (e_cmp (n := 0) (op_eqD hr.units) ob_eq (e_fn c__law_told hr (by decide) (takes_of rfl rfl rfl rfl) (a_cons (e_int (n := 0)) (a_cons (e_var 0) (a_cons (e_op2 op_addD od_add (e_op2 (n := 0) op_shlW od_shl (e_int (n := 0)) (e_int (n := 0))) (e_int (n := 0))) a_nil))) (al_cons (al_cons (al_cons al_nil)))) (e_str (n := 0)) (nomark _)) (e_one (e_cmp (n := 0) (op_eqD hr.units) ob_eq (e_fn c__law_told hr (by decide) (takes_of rfl rfl rfl rfl) (a_cons (e_int (n := 0)) (a_cons (e_lst (a_cons (e_int (n := 0)) (a_cons (e_int (n := 0)) (a_cons (e_int (n := 0)) a_nil)))) (a_cons (e_int (n := 0)) a_nil))) (al_cons (al_cons (al_cons al_nil)))) (e_str (n := 0)) (nomark _))))))))))
abbrev st_law : Stmt := top 31
theorem sc_law : FnScope ["script", "size", "count", "least", "primes", "prime", "root", "other", "turn", "a", "given", "values", "passed", "row", "back", "one"] ["script"] (defScope st_law) := ⟨rfl, rfl, rfl, by decide +kernel, rfl, by decide +kernel, by decide +kernel⟩
theorem ok_law {P : Program} {w : World} {K : PySem.W.Frag} {mg : Str → Option Value} {base : Heap} {fA : Addr} {fd : FuncData} {dvs : List V} {kws : List (Str × V)} (t : Tx K mg)  (c__law_size : FnS P w K mg base "_law_size" 1 1 f__law_size 0 []) (c__law_cell : FnS P w K mg base "_law_cell" 1 2 f__law_cell 0 []) (c_transform_primes : FnS P w K mg base "transform_primes" 2 3 f_transform_primes 0 []) (c__law_is_list : FnS P w K mg base "_law_is_list" 2 2 f__law_is_list 0 []) (c__law_primes : FnS P w K mg base "_law_primes" 2 3 f__law_primes 0 []) (c_find_root : FnS P w K mg base "find_root" 3 2 f_find_root 0 []) (c__law_integer : FnS P w K mg base "_law_integer" 1 1 f__law_integer 0 []) (c__law_power : FnS P w K mg base "_law_power" 1 3 f__law_power 0 []) (c__law_poly : FnS P w K mg base "_law_poly" 3 3 f__law_poly 0 []) (c_transform : FnS P w K mg base "transform" 4 2 f_transform 0 []) (c__law_values : FnS P w K mg base "_law_values" 2 3 f__law_values 0 []) (c_transform_back : FnS P w K mg base "transform_back" 4 2 f_transform_back 0 []) (c__law_bounds : FnS P w K mg base "_law_bounds" 6 2 f__law_bounds 0 []) (F : FunD K "law" "law" (defArgs st_law) (defBody st_law) (defScope st_law) dvs kws fA fd) :
    FnOk P w K mg base (L2.CX P w) 7 fA fd ["script"] (spF ⟨K, mg, none⟩ 1 f_law 0) := by
  have nd := (sc_law).nd
  exact fn_ok (Γ := [0, 0, 0, 0, 0, 0, 0, 0, 0, 0, 0, 0, 0, 0, 0, 0]) (Γ' := [0, 0, 0, 0, 0, 0, 0, 0, 0, 0, 0, 0, 0, 0, 0, 0]) F sc_law rfl rfl (fun cdv A outer s H E hr => by
    unfold b_law t_law_3 t_law_2 t_law_1 t_law_0 cq_law_0 c_law_1 c_law_0 w_law_0
    exact (ss_cons (s_asg (Γ' := [0, 0, 0, 0, 0, 0, 0, 0, 0, 0, 0, 0, 0, 0, 0, 0]) 1 rfl nd (e_fn c__law_size hr (by decide) (takes_of rfl rfl rfl rfl) (a_cons (e_fn c__law_cell hr (by decide) (takes_of rfl rfl rfl rfl) (a_cons (e_var 0) (a_cons (e_int (n := 0)) a_nil)) (al_cons (al_cons al_nil))) a_nil) (al_cons al_nil)) rfl)
 (ss_cons (s_asg (Γ' := [0, 0, 0, 0, 0, 0, 0, 0, 0, 0, 0, 0, 0, 0, 0, 0]) 2 rfl nd (e_fz (e_op2 op_addD od_add (e_int (n := 0)) (e_op2 (n := 0) op_mod od_mod (e_op2 (n := 0) op_fdivL od_div (e_abs (n := 0) t.blt.abs (a_cons (e_fn c__law_cell hr (by decide) (takes_of rfl rfl rfl rfl) (a_cons (e_var 0) (a_cons (e_int (n := 0)) a_nil)) (al_cons (al_cons al_nil))) a_nil)) (e_int (n := 0))) (e_ix (e_lst (a_cons (e_int (n := 0)) (a_cons (e_int (n := 0)) a_nil))) (e_int' (n := 0) t.blt.int (a_cons (e_cmp (n := 0) (op_eqD hr.units) ob_eq (e_op2 (n := 0) op_mod od_mod (e_op2 (n := 0) op_fdivL od_div (e_abs (n := 0) t.blt.abs (a_cons (e_fn c__law_cell hr (by decide) (takes_of rfl rfl rfl rfl) (a_cons (e_var 0) (a_cons (e_int (n := 0)) a_nil)) (al_cons (al_cons al_nil))) a_nil)) (e_int (n := 0))) (e_int (n := 0))) (e_int (n := 0)) (nomark _)) a_nil)))))) rfl)
 (ss_cons (s_asg (Γ' := [0, 0, 0, 0, 0, 0, 0, 0, 0, 0, 0, 0, 0, 0, 0, 0]) 3 rfl nd (e_ix (e_lst (a_cons (e_op2 (n := 0) op_mod od_mod (e_op2 (n := 0) op_fdivL od_div (e_abs (n := 0) t.blt.abs (a_cons (e_fn c__law_cell hr (by decide) (takes_of rfl rfl rfl rfl) (a_cons (e_var 0) (a_cons (e_int (n := 0)) a_nil)) (al_cons (al_cons al_nil))) a_nil)) (e_int (n := 0))) (e_int (n := 0))) (a_cons (e_op2 (n := 0) op_mod od_mod (e_op2 (n := 0) op_fdivL od_div (e_abs (n := 0) t.blt.abs (a_cons (e_fn c__law_cell hr (by decide) (takes_of rfl rfl rfl rfl) (a_cons (e_var 0) (a_cons (e_int (n := 0)) a_nil)) (al_cons (al_cons al_nil))) a_nil)) (e_int (n := 0))) (e_int (n := 0))) (a_cons (e_un (n := 0) un_neg ud_neg (e_int (n := 0))) a_nil)))) (e_op2 (n := 0) op_mod od_mod (e_abs (n := 0) t.blt.abs (a_cons (e_fn c__law_cell hr (by decide) (takes_of rfl rfl rfl rfl) (a_cons (e_var 0) (a_cons (e_int (n := 0)) a_nil)) (al_cons (al_cons al_nil))) a_nil)) (e_int (n := 0)))) rfl)
 (ss_cons (s_if (Γ' := [0, 0, 0, 0, 0, 0, 0, 0, 0, 0, 0, 0, 0, 0, 0, 0]) rfl (q_w (w_and (q_cmp (op_eqD hr.units) ob_eq (e_op2 (n := 0) op_mod od_mod (e_op2 (n := 0) op_fdivL od_div (e_abs (n := 0) t.blt.abs (a_cons (e_fn c__law_cell hr (by decide) (takes_of rfl rfl rfl rfl) (a_cons (e_var 0) (a_cons (e_int (n := 0)) a_nil)) (al_cons (al_cons al_nil))) a_nil)) (e_int (n := 0))) (e_int (n := 0))) (e_int (n := 0)) (nomark _)) (w_and1 (q_cmp op_le opd_B0 (e_var 1) (e_int (n := 0)) (nomark _)))))
 (ss_cons (s_asg (Γ' := [0, 0, 0, 0, 0, 0, 0, 0, 0, 0, 0, 0, 0, 0, 0, 0]) 3 rfl nd (e_ix (e_lst (a_cons (e_op2 (n := 0) op_shlW od_shl (e_int (n := 0)) (e_int (n := 0))) (a_cons (e_op2 op_addD od_add (e_op2 (n := 0) op_shlW od_shl (e_int (n := 0)) (e_int (n := 0))) (e_var 3)) a_nil))) (e_op2 (n := 0) op_mod od_mod (e_op2 (n := 0) op_fdivL od_div (e_abs (n := 0) t.blt.abs (a_cons (e_fn c__law_cell hr (by decide) (takes_of rfl rfl rfl rfl) (a_cons (e_var 0) (a_cons (e_int (n := 0)) a_nil)) (al_cons (al_cons al_nil))) a_nil)) (e_int (n := 0))) (e_int (n := 0)))) rfl)
 (ss_one (s_asg (Γ' := [0, 0, 0, 0, 0, 0, 0, 0, 0, 0, 0, 0, 0, 0, 0, 0]) 2 rfl nd (e_fz (e_op2 op_addD od_add (e_int (n := 0)) (e_op2 (n := 0) op_mod od_mod (e_var 2) (e_int (n := 0))))) rfl)))
 (ss_nil))
 (ss_cons (s_asg (Γ' := [0, 0, 0, 0, 0, 0, 0, 0, 0, 0, 0, 0, 0, 0, 0, 0]) 4 rfl nd (e_fn c_transform_primes hr (by decide) (takes_of rfl rfl rfl rfl) (a_cons (e_var 1) (a_cons (e_var 2) (a_cons (e_var 3) a_nil))) (al_cons (al_cons (al_cons al_nil)))) rfl)
 (ss_cons (s_if (Γ' := [0, 0, 0, 0, 0, 0, 0, 0, 0, 0, 0, 0, 0, 0, 0, 0]) rfl (q_not (q_tru (e_fn c__law_is_list hr (by decide) (takes_of rfl rfl rfl rfl) (a_cons (e_var 4) (a_cons (e_fn c__law_primes hr (by decide) (takes_of rfl rfl rfl rfl) (a_cons (e_var 1) (a_cons (e_var 2) (a_cons (e_var 3) a_nil))) (al_cons (al_cons (al_cons al_nil)))) a_nil)) (al_cons (al_cons al_nil)))))
 (ss_one (s_ret (Γ' := [0, 0, 0, 0, 0, 0, 0, 0, 0, 0, 0, 0, 0, 0, 0, 0]) rfl (e_bl (n := 0))))
 (ss_nil))
 (ss_cons (s_asg (Γ' := [0, 0, 0, 0, 0, 0, 0, 0, 0, 0, 0, 0, 0, 0, 0, 0]) 5 rfl nd (e_ix (e_var 4) (e_un (n := 0) un_neg ud_neg (e_int (n := 0)))) rfl)
 (ss_cons (s_asg (Γ' := [0, 0, 0, 0, 0, 0, 0, 0, 0, 0, 0, 0, 0, 0, 0, 0]) 6 rfl nd (e_fn c_find_root hr (by decide) (takes_of rfl rfl rfl rfl) (a_cons (e_var 5) (a_cons (e_var 1) a_nil)) (al_cons (al_cons al_nil))) rfl)
 (ss_cons (s_if (Γ' := [0, 0, 0, 0, 0, 0, 0, 0, 0, 0, 0, 0, 0, 0, 0, 0]) rfl (q_w (w_or (q_not (q_tru (e_fn c__law_integer hr (by decide) (takes_of rfl rfl rfl rfl) (a_cons (e_var 6) a_nil) (al_cons al_nil)))) (w_or (q_not (q_chain op_le op_lt opd_B0 opd_B0 (e_int (n := 0)) (e_var 6) (e_var 5))) (w_or1 (q_cmp (op_neD hr.units) ob_ne (e_fn c__law_power hr (by decide) (takes_of rfl rfl rfl rfl) (a_cons (e_var 6) (a_cons (e_var 1) (a_cons (e_var 5) a_nil))) (al_cons (al_cons (al_cons al_nil)))) (e_op2 (n := 0) op_sub od_sub (e_var 5) (e_int (n := 0))) (nomark _))))))
 (ss_one (s_ret (Γ' := [0, 0, 0, 0, 0, 0, 0, 0, 0, 0, 0, 0, 0, 0, 0, 0]) rfl (e_bl (n := 0))))
 (ss_nil))
 (ss_cons (s_asg (Γ' := [0, 0, 0, 0, 0, 0, 0, 0, 0, 0, 0, 0, 0, 0, 0, 0]) 7 rfl nd (e_var 6) rfl)
 (ss_cons (s_for [false, false, false, false, false, false, false, false, false, false, false, false, false, false, false, false] rfl (passes_of rfl) rfl (i_range1 t.blt.range (e_op2 (n := 0) op_sub od_sub (e_var 1) (e_int (n := 0)))) (g_name 8 nd) (Γ' := [0, 0, 0, 0, 0, 0, 0, 0, 0, 0, 0, 0, 0, 0, 0, 0]) rfl
 (ss_cons (s_asg (Γ' := [0, 0, 0, 0, 0, 0, 0, 0, 0, 0, 0, 0, 0, 0, 0, 0]) 7 rfl nd (e_op2 (n := 0) op_mod od_mod (e_int' (n := 0) t.blt.int (a_cons (e_op2 op_mulD od_mul (e_op2 op_mulD od_mul (e_var 7) (e_var 6)) (e_var 6)) a_nil)) (e_var 5)) rfl)
 (ss_one (s_if (Γ' := [0, 0, 0, 0, 0, 0, 0, 0, 0, 0, 0, 0, 0, 0, 0, 0]) rfl (q_cmp op_lt opd_B0 (e_var 7) (e_var 6) (nomark _))
 (ss_one (s_ret (Γ' := [0, 0, 0, 0, 0, 0, 0, 0, 0, 0, 0, 0, 0, 0, 0, 0]) rfl (e_bl (n := 0))))
 (ss_nil)))))
 (ss_cons (s_asg (Γ' := [0, 0, 0, 0, 0, 0, 0, 0, 0, 0, 0, 0, 0, 0, 0, 0]) 9 rfl nd (e_fn c__law_poly hr (by decide) (takes_of rfl rfl rfl rfl) (a_cons (e_fn c__law_cell hr (by decide) (takes_of rfl rfl rfl rfl) (a_cons (e_var 0) (a_cons (e_int (n := 0)) a_nil)) (al_cons (al_cons al_nil))) (a_cons (e_var 1) (a_cons (e_ix (e_lst (a_cons (e_var 5) (a_cons (e_op2 (n := 0) op_shlW od_shl (e_int (n := 0)) (e_int (n := 0))) a_nil))) (e_op2 (n := 0) op_mod od_mod (e_abs (n := 0) t.blt.abs (a_cons (e_fn c__law_cell hr (by decide) (takes_of rfl rfl rfl rfl) (a_cons (e_var 0) (a_cons (e_int (n := 0)) a_nil)) (al_cons (al_cons al_nil))) a_nil)) (e_int (n := 0)))) a_nil))) (al_cons (al_cons (al_cons al_nil)))) rfl)
 (ss_cons (s_asg (Γ' := [0, 0, 0, 0, 0, 0, 0, 0, 0, 0, 0, 0, 0, 0, 0, 0]) 10 rfl nd (e_fz (e_list t.blt.list (a_cons (e_var 9) a_nil))) rfl)
 (ss_cons (s_asg (Γ' := [0, 0, 0, 0, 0, 0, 0, 0, 0, 0, 0, 0, 0, 0, 0, 0]) 11 rfl nd (e_fn c_transform hr (by decide) (takes_of rfl rfl rfl rfl) (a_cons (e_var 10) (a_cons (e_var 5) a_nil)) (al_cons (al_cons al_nil))) rfl)
 (ss_cons (s_if (Γ' := [0, 0, 0, 0, 0, 0, 0, 0, 0, 0, 0, 0, 0, 0, 0, 0]) rfl (q_w (w_or (q_not (q_tru (e_fn c__law_is_list hr (by decide) (takes_of rfl rfl rfl rfl) (a_cons (e_var 11) (a_cons (e_fn c__law_values hr (by decide) (takes_of rfl rfl rfl rfl) (a_cons (e_var 9) (a_cons (e_var 6) (a_cons (e_var 5) a_nil))) (al_cons (al_cons (al_cons al_nil)))) a_nil)) (al_cons (al_cons al_nil))))) (w_or1 (q_cmp (op_neD hr.units) ob_ne (e_var 10) (e_var 9) (nomark _)))))
 (ss_one (s_ret (Γ' := [0, 0, 0, 0, 0, 0, 0, 0, 0, 0, 0, 0, 0, 0, 0, 0]) rfl (e_bl (n := 0))))
 (ss_nil))
 (ss_cons (s_asg (Γ' := [0, 0, 0, 0, 0, 0, 0, 0, 0, 0, 0, 0, 0, 0, 0, 0]) 12 rfl nd (e_fz (e_list t.blt.list (a_cons (e_var 11) a_nil))) rfl)
 (ss_cons (s_if (Γ' := [0, 0, 0, 0, 0, 0, 0, 0, 0, 0, 0, 0, 0, 0, 0, 0]) rfl (q_w (w_or (q_not (q_tru (e_fn c__law_is_list hr (by decide) (takes_of rfl rfl rfl rfl) (a_cons (e_fn c_transform_back hr (by decide) (takes_of rfl rfl rfl rfl) (a_cons (e_var 12) (a_cons (e_var 5) a_nil)) (al_cons (al_cons al_nil))) (a_cons (e_comp rfl nd (i_seq (e_var 9)) (blkOk_by (own := [(("one" : Str), 15)]) (by kernel_rfl)) (by decide) (fun _ _ _ _ _ => (g_name 15 nd)) (fun _ _ _ _ _ => t_nil) (fun _ _ _ _ _ => (e_op2 (n := 0) op_mod od_mod (e_int' (n := 0) t.blt.int (a_cons (e_var 15) a_nil)) (e_var 5)))) a_nil)) (al_cons (al_cons al_nil))))) (w_or1 (q_cmp (op_neD hr.units) ob_ne (e_var 12) (e_var 11) (nomark _)))))
 (ss_one (s_ret (Γ' := [0, 0, 0, 0, 0, 0, 0, 0, 0, 0, 0, 0, 0, 0, 0, 0]) rfl (e_bl (n := 0))))
 (ss_nil))
 (ss_cons (s_fz [false, false, false, false, false, false, false, false, false, false, false, false, false, false, false, false] rfl (Γ1 := [0, 0, 0, 0, 0, 0, 0, 0, 0, 0, 0, 0, 0, 1, 0, 0]) (Γ2 := [0, 0, 0, 0, 0, 0, 0, 0, 0, 0, 0, 0, 0, 0, 0, 0]) (s_asgC 13 rfl rfl nd (i_seq (e_fn c__law_poly hr (by decide) (takes_of rfl rfl rfl rfl) (a_cons (e_fn c__law_cell hr (by decide) (takes_of rfl rfl rfl rfl) (a_cons (e_var 0) (a_cons (e_int (n := 0)) a_nil)) (al_cons (al_cons al_nil))) (a_cons (e_var 1) (a_cons (e_var 5) a_nil))) (al_cons (al_cons (al_cons al_nil))))) (blkOk_by (own := [(("one" : Str), 15)]) (by kernel_rfl)) (by decide) (fun _ _ _ _ _ => (g_name 15 nd)) (fun _ _ _ _ _ => t_nil) (fun _ _ _ _ _ => (e_op2 (n := 0) op_mod od_mod (e_int' (n := 0) t.blt.int (a_cons (e_var 15) a_nil)) (e_var 5))) (Γ' := [0, 0, 0, 0, 0, 0, 0, 0, 0, 0, 0, 0, 0, 1, 0, 0]) rfl (Or.inl (by decide))))
 (ss_cons (s_asg (Γ' := [0, 0, 0, 0, 0, 0, 0, 0, 0, 0, 0, 0, 0, 0, 0, 0]) 14 rfl nd (e_fn c_transform_back hr (by decide) (takes_of rfl rfl rfl rfl) (a_cons (e_list t.blt.list (a_cons (e_var 13) a_nil)) (a_cons (e_var 5) a_nil)) (al_cons (al_cons al_nil))) rfl)
 (ss_cons (s_if (Γ' := [0, 0, 0, 0, 0, 0, 0, 0, 0, 0, 0, 0, 0, 0, 0, 0]) rfl (q_w (w_or (q_cmp op_gt opd_B0 (e_len (n := 0) t.blt.len (a_cons (e_comp rfl nd (i_seq (e_var 14)) (blkOk_by (own := [(("one" : Str), 15)]) (by kernel_rfl)) (by decide) (fun _ _ _ _ _ => (g_name 15 nd)) (fun _ _ _ _ _ => (t_one (q_not (q_chain op_le op_lt opd_B0 opd_B0 (e_int (n := 0)) (e_var 15) (e_var 5))))) (fun _ _ _ _ _ => (e_var 15))) a_nil)) (e_int (n := 0)) (nomark _)) (w_or1 (q_not (q_tru (e_fn c__law_is_list hr (by decide) (takes_of rfl rfl rfl rfl) (a_cons (e_fn c_transform hr (by decide) (takes_of rfl rfl rfl rfl) (a_cons (e_list t.blt.list (a_cons (e_var 14) a_nil)) (a_cons (e_var 5) a_nil)) (al_cons (al_cons al_nil))) (a_cons (e_var 13) a_nil)) (al_cons (al_cons al_nil))))))))
 (ss_one (s_ret (Γ' := [0, 0, 0, 0, 0, 0, 0, 0, 0, 0, 0, 0, 0, 0, 0, 0]) rfl (e_bl (n := 0))))
 (ss_nil))
 (ss_one (s_ret (Γ' := [0, 0, 0, 0, 0, 0, 0, 0, 0, 0, 0, 0, 0, 0, 0, 0]) rfl (e_fn c__law_bounds hr (by decide) (takes_of rfl rfl rfl rfl) (a_cons (e_var 9) (a_cons (e_var 5) a_nil)) (al_cons (al_cons al_nil))))))))))))))))))))))))))
end K05
namespace K05
open PySem PySem.Spec PyProof.Rows L2 VL
def d_check_modulus : He.DefD := ⟨("check_modulus", none), "check_modulus", "check_modulus", defArgs st_check_modulus, defBody st_check_modulus, defScope st_check_modulus, [], []⟩
def d_is_prime : He.DefD := ⟨("is_prime", none), "is_prime", "is_prime", defArgs st_is_prime, defBody st_is_prime, defScope st_is_prime, [], []⟩
def d_check_size : He.DefD := ⟨("check_size", none), "check_size", "check_size", defArgs st_check_size, defBody st_check_size, defScope st_check_size, [], []⟩
def d__law_cell : He.DefD := ⟨("_law_cell", none), "_law_cell", "_law_cell", defArgs st__law_cell, defBody st__law_cell, defScope st__law_cell, [], []⟩
def d__law_mixed : He.DefD := ⟨("_law_mixed", none), "_law_mixed", "_law_mixed", defArgs st__law_mixed, defBody st__law_mixed, defScope st__law_mixed, [], []⟩
def d__law_integer : He.DefD := ⟨("_law_integer", none), "_law_integer", "_law_integer", defArgs st__law_integer, defBody st__law_integer, defScope st__law_integer, [], []⟩
def d__law_is_prime : He.DefD := ⟨("_law_is_prime", none), "_law_is_prime", "_law_is_prime", defArgs st__law_is_prime, defBody st__law_is_prime, defScope st__law_is_prime, [], []⟩
def d__law_power : He.DefD := ⟨("_law_power", none), "_law_power", "_law_power", defArgs st__law_power, defBody st__law_power, defScope st__law_power, [], []⟩
def d__law_size : He.DefD := ⟨("_law_size", none), "_law_size", "_law_size", defArgs st__law_size, defBody st__law_size, defScope st__law_size, [], []⟩
def d_inverse : He.DefD := ⟨("inverse", none), "inverse", "inverse", defArgs st_inverse, defBody st_inverse, defScope st_inverse, [], []⟩
def d_power : He.DefD := ⟨("power", none), "power", "power", defArgs st_power, defBody st_power, defScope st_power, [], []⟩
def d_check_prime : He.DefD := ⟨("check_prime", none), "check_prime", "check_prime", defArgs st_check_prime, defBody st_check_prime, defScope st_check_prime, [], []⟩
def d_transform_primes : He.DefD := ⟨("transform_primes", none), "transform_primes", "transform_primes", defArgs st_transform_primes, defBody st_transform_primes, defScope st_transform_primes, [], []⟩
def d__law_is_list : He.DefD := ⟨("_law_is_list", none), "_law_is_list", "_law_is_list", defArgs st__law_is_list, defBody st__law_is_list, defScope st__law_is_list, [], []⟩
def d__law_wide : He.DefD := ⟨("_law_wide", none), "_law_wide", "_law_wide", defArgs st__law_wide, defBody st__law_wide, defScope st__law_wide, [], []⟩
def d__law_primes : He.DefD := ⟨("_law_primes", none), "_law_primes", "_law_primes", defArgs st__law_primes, defBody st__law_primes, defScope st__law_primes, [], []⟩
def d__law_values : He.DefD := ⟨("_law_values", none), "_law_values", "_law_values", defArgs st__law_values, defBody st__law_values, defScope st__law_values, [], []⟩
def d_find_root : He.DefD := ⟨("find_root", none), "find_root", "find_root", defArgs st_find_root, defBody st_find_root, defScope st_find_root, [], []⟩
def d__law_poly : He.DefD := ⟨("_law_poly", none), "_law_poly", "_law_poly", defArgs st__law_poly, defBody st__law_poly, defScope st__law_poly, [], []⟩
def d_transform : He.DefD := ⟨("transform", none), "transform", "transform", defArgs st_transform, defBody st_transform, defScope st_transform, [], []⟩
def d_transform_back : He.DefD := ⟨("transform_back", none), "transform_back", "transform_back", defArgs st_transform_back, defBody st_transform_back, defScope st_transform_back, [], []⟩
def d__law_told : He.DefD := ⟨("_law_told", none), "_law_told", "_law_told", defArgs st__law_told, defBody st__law_told, defScope st__law_told, [], []⟩
def d__law_bounds : He.DefD := ⟨("_law_bounds", none), "_law_bounds", "_law_bounds", defArgs st__law_bounds, defBody st__law_bounds, defScope st__law_bounds, [], []⟩
def d_law : He.DefD := ⟨("law", none), "law", "law", defArgs st_law, defBody st_law, defScope st_law, [], []⟩
def fn : List He.DefD := [d_check_modulus, d_is_prime, d_check_size, d__law_cell, d__law_mixed, d__law_integer, d__law_is_prime, d__law_power, d__law_size, d_inverse, d_power, d_check_prime, d_transform_primes, d__law_is_list, d__law_wide, d__law_primes, d__law_values, d_find_root, d__law_poly, d_transform, d_transform_back, d__law_told, d__law_bounds, d_law]
def fa : List He.Fa := bltFa ++ [.glo "check_modulus", .glo "is_prime", .glo "check_size", .glo "_law_cell", .glo "_law_mixed", .glo "_law_integer", .glo "_law_is_prime", .glo "_law_power", .glo "_law_size", .glo "inverse", .glo "power", .glo "check_prime", .glo "transform_primes", .glo "_law_is_list", .glo "_law_wide", .glo "_law_primes", .glo "_law_values", .glo "find_root", .glo "_law_poly", .glo "transform", .glo "transform_back", .glo "_law_told", .glo "_law_bounds", .glo "law", .glo "NotThere", .glo "OutOfRange", .glo "PurseError"]
abbrev R : PySem.W.OpenRow := PySem.W.OpenLaw.row PySem.Challenge.rw_noisepurse_k05_transforms
abbrev hk : PySem.W.Hook := hookV 4 fa fn
def ob (s : PySem.W.SharedT) : (Bool × Bool) × He.AlD := obsVG 4 fa fn (HandSHeadRun.getT s)
theorem ob_eq (s : PySem.W.SharedT) : ob s = hk.obs s.abs := obsVG_eq (HandSHeadRun.getT_eq s)
theorem run (w : World) : HandSHeadRun.RunEq R (PySem.W.view R.prog [31]) hk ob 4000 ["PurseError", "OutOfRange", "NotThere", "check_modulus", "inverse", "power", "is_prime", "check_size", "check_prime", "find_root", "transform_primes", "transform", "transform_back", "_law_cell", "_law_mixed", "_law_integer", "_law_is_list", "_law_wide", "_law_poly", "_law_is_prime", "_law_primes", "_law_power", "_law_values", "_law_told", "_law_bounds", "_law_size"] w := by
  intro os
  kernel_rfl
theorem facts {P : Program} {w : World} {K : PySem.W.Frag} {h : Heap} {mg : Str → Option Value} {f : Addr} (X : K.In h) (G : h.Ns mainGlobals mg) (hfa : mg ("law" : Str) = some (.ref f)) (c : SaysV fa fn K) :
    ∃ fd : FuncData, (∀ (s : Shared) (v : Value), BindsTo s fd ⟨[v], []⟩ [("script", v)]) ∧ ∀ base : Heap, K.In base → base.Ns mainGlobals mg → FnOk P w K mg base (L2.CX P w) 7 f fd ["script"] (spF ⟨K, mg, none⟩ 1 f_law 0) := by
  have t : Tx K mg := ⟨⟨He.free_ok X G (c.d.fact 0 (f := .free "abs") rfl), He.free_ok X G (c.d.fact 1 (f := .free "len") rfl), He.free_ok X G (c.d.fact 2 (f := .free "max") rfl), He.free_ok X G (c.d.fact 3 (f := .free "min") rfl), He.free_ok X G (c.d.fact 4 (f := .free "sum") rfl), He.free_ok X G (c.d.fact 5 (f := .free "isinstance") rfl), He.free_ok X G (c.d.fact 6 (f := .free "int") rfl), He.free_ok X G (c.d.fact 7 (f := .free "bool") rfl), He.free_ok X G (c.d.fact 8 (f := .free "str") rfl), He.free_ok X G (c.d.fact 9 (f := .free "list") rfl), He.free_ok X G (c.d.fact 10 (f := .free "tuple") rfl), He.free_ok X G (c.d.fact 11 (f := .free "range") rfl), He.free_ok X G (c.d.fact 12 (f := .free "reversed") rfl), He.free_ok X G (c.d.fact 13 (f := .free "enumerate") rfl), He.free_ok X G (c.d.fact 14 (f := .free "zip") rfl), He.free_ok X G (c.d.fact 15 (f := .free "sorted") rfl), He.free_ok X G (c.d.fact 16 (f := .free "any") rfl), He.free_ok X G (c.d.fact 17 (f := .free "all") rfl), He.free_ok X G (c.d.fact 18 (f := .free "ValueError") rfl), He.free_ok X G (c.d.fact 19 (f := .free "dict") rfl)⟩, erT_of X G c.er, clT_of X G c.cl⟩
  obtain ⟨fd_check_modulus, F_check_modulus⟩ := c.d.def_ 0 (d := d_check_modulus) rfl
  have m_check_modulus : mg "check_modulus" = some (.ref (He.fAd K ("check_modulus", none))) := He.glo_ok X G (c.d.fact 20 (f := .glo "check_modulus") rfl)
  obtain ⟨fd_is_prime, F_is_prime⟩ := c.d.def_ 1 (d := d_is_prime) rfl
  have m_is_prime : mg "is_prime" = some (.ref (He.fAd K ("is_prime", none))) := He.glo_ok X G (c.d.fact 21 (f := .glo "is_prime") rfl)
  obtain ⟨fd_check_size, F_check_size⟩ := c.d.def_ 2 (d := d_check_size) rfl
  have m_check_size : mg "check_size" = some (.ref (He.fAd K ("check_size", none))) := He.glo_ok X G (c.d.fact 22 (f := .glo "check_size") rfl)
  obtain ⟨fd__law_cell, F__law_cell⟩ := c.d.def_ 3 (d := d__law_cell) rfl
  have m__law_cell : mg "_law_cell" = some (.ref (He.fAd K ("_law_cell", none))) := He.glo_ok X G (c.d.fact 23 (f := .glo "_law_cell") rfl)
  obtain ⟨fd__law_mixed, F__law_mixed⟩ := c.d.def_ 4 (d := d__law_mixed) rfl
  have m__law_mixed : mg "_law_mixed" = some (.ref (He.fAd K ("_law_mixed", none))) := He.glo_ok X G (c.d.fact 24 (f := .glo "_law_mixed") rfl)
  obtain ⟨fd__law_integer, F__law_integer⟩ := c.d.def_ 5 (d := d__law_integer) rfl
  have m__law_integer : mg "_law_integer" = some (.ref (He.fAd K ("_law_integer", none))) := He.glo_ok X G (c.d.fact 25 (f := .glo "_law_integer") rfl)
  obtain ⟨fd__law_is_prime, F__law_is_prime⟩ := c.d.def_ 6 (d := d__law_is_prime) rfl
  have m__law_is_prime : mg "_law_is_prime" = some (.ref (He.fAd K ("_law_is_prime", none))) := He.glo_ok X G (c.d.fact 26 (f := .glo "_law_is_prime") rfl)
  obtain ⟨fd__law_power, F__law_power⟩ := c.d.def_ 7 (d := d__law_power) rfl
  have m__law_power : mg "_law_power" = some (.ref (He.fAd K ("_law_power", none))) := He.glo_ok X G (c.d.fact 27 (f := .glo "_law_power") rfl)
  obtain ⟨fd__law_size, F__law_size⟩ := c.d.def_ 8 (d := d__law_size) rfl
  have m__law_size : mg "_law_size" = some (.ref (He.fAd K ("_law_size", none))) := He.glo_ok X G (c.d.fact 28 (f := .glo "_law_size") rfl)
  obtain ⟨fd_inverse, F_inverse⟩ := c.d.def_ 9 (d := d_inverse) rfl
  have m_inverse : mg "inverse" = some (.ref (He.fAd K ("inverse", none))) := He.glo_ok X G (c.d.fact 29 (f := .glo "inverse") rfl)
  obtain ⟨fd_power, F_power⟩ := c.d.def_ 10 (d := d_power) rfl
  have m_power : mg "power" = some (.ref (He.fAd K ("power", none))) := He.glo_ok X G (c.d.fact 30 (f := .glo "power") rfl)
  obtain ⟨fd_check_prime, F_check_prime⟩ := c.d.def_ 11 (d := d_check_prime) rfl
  have m_check_prime : mg "check_prime" = some (.ref (He.fAd K ("check_prime", none))) := He.glo_ok X G (c.d.fact 31 (f := .glo "check_prime") rfl)
  obtain ⟨fd_transform_primes, F_transform_primes⟩ := c.d.def_ 12 (d := d_transform_primes) rfl
  have m_transform_primes : mg "transform_primes" = some (.ref (He.fAd K ("transform_primes", none))) := He.glo_ok X G (c.d.fact 32 (f := .glo "transform_primes") rfl)
  obtain ⟨fd__law_is_list, F__law_is_list⟩ := c.d.def_ 13 (d := d__law_is_list) rfl
  have m__law_is_list : mg "_law_is_list" = some (.ref (He.fAd K ("_law_is_list", none))) := He.glo_ok X G (c.d.fact 33 (f := .glo "_law_is_list") rfl)
  obtain ⟨fd__law_wide, F__law_wide⟩ := c.d.def_ 14 (d := d__law_wide) rfl
  have m__law_wide : mg "_law_wide" = some (.ref (He.fAd K ("_law_wide", none))) := He.glo_ok X G (c.d.fact 34 (f := .glo "_law_wide") rfl)
  obtain ⟨fd__law_primes, F__law_primes⟩ := c.d.def_ 15 (d := d__law_primes) rfl
  have m__law_primes : mg "_law_primes" = some (.ref (He.fAd K ("_law_primes", none))) := He.glo_ok X G (c.d.fact 35 (f := .glo "_law_primes") rfl)
  obtain ⟨fd__law_values, F__law_values⟩ := c.d.def_ 16 (d := d__law_values) rfl
  have m__law_values : mg "_law_values" = some (.ref (He.fAd K ("_law_values", none))) := He.glo_ok X G (c.d.fact 36 (f := .glo "_law_values") rfl)
  obtain ⟨fd_find_root, F_find_root⟩ := c.d.def_ 17 (d := d_find_root) rfl
  have m_find_root : mg "find_root" = some (.ref (He.fAd K ("find_root", none))) := He.glo_ok X G (c.d.fact 37 (f := .glo "find_root") rfl)
  obtain ⟨fd__law_poly, F__law_poly⟩ := c.d.def_ 18 (d := d__law_poly) rfl
  have m__law_poly : mg "_law_poly" = some (.ref (He.fAd K ("_law_poly", none))) := He.glo_ok X G (c.d.fact 38 (f := .glo "_law_poly") rfl)
  obtain ⟨fd_transform, F_transform⟩ := c.d.def_ 19 (d := d_transform) rfl
  have m_transform : mg "transform" = some (.ref (He.fAd K ("transform", none))) := He.glo_ok X G (c.d.fact 39 (f := .glo "transform") rfl)
  obtain ⟨fd_transform_back, F_transform_back⟩ := c.d.def_ 20 (d := d_transform_back) rfl
  have m_transform_back : mg "transform_back" = some (.ref (He.fAd K ("transform_back", none))) := He.glo_ok X G (c.d.fact 40 (f := .glo "transform_back") rfl)
  obtain ⟨fd__law_told, F__law_told⟩ := c.d.def_ 21 (d := d__law_told) rfl
  have m__law_told : mg "_law_told" = some (.ref (He.fAd K ("_law_told", none))) := He.glo_ok X G (c.d.fact 41 (f := .glo "_law_told") rfl)
  obtain ⟨fd__law_bounds, F__law_bounds⟩ := c.d.def_ 22 (d := d__law_bounds) rfl
  have m__law_bounds : mg "_law_bounds" = some (.ref (He.fAd K ("_law_bounds", none))) := He.glo_ok X G (c.d.fact 42 (f := .glo "_law_bounds") rfl)
  obtain ⟨fd_law, F_law⟩ := c.d.def_ 23 (d := d_law) rfl
  have e := hfa.symm.trans (He.glo_ok X G (c.d.fact 43 (f := .glo "law") rfl))
  cases e
  have g_NotThere : mg "NotThere" = some (.ref (He.ga K "NotThere")) := He.glo_ok X G (c.d.fact 44 (f := .glo "NotThere") rfl)
  have g_OutOfRange : mg "OutOfRange" = some (.ref (He.ga K "OutOfRange")) := He.glo_ok X G (c.d.fact 45 (f := .glo "OutOfRange") rfl)
  have g_PurseError : mg "PurseError" = some (.ref (He.ga K "PurseError")) := He.glo_ok X G (c.d.fact 46 (f := .glo "PurseError") rfl)
  have b := FunD.bindsA (ps := ["script"]) F_law fun _ _ _ _ _ _ us hl => match us, hl with | [_], _ => rfl
  refine ⟨fd_law, fun s v => b s [v] rfl, fun base _ _ => ?_⟩
  have o_check_modulus := ok_check_modulus (P := P) (w := w) (base := base) t g_OutOfRange  F_check_modulus
  have c_check_modulus := FnS_of m_check_modulus F_check_modulus.kp o_check_modulus (FunD.bindsN (ps := ["k"]) F_check_modulus fun _ _ _ _ _ _ us hl => match us, hl with | [_], _ => rfl)
  have o_is_prime := ok_is_prime (P := P) (w := w) (base := base) t g_OutOfRange  F_is_prime
  have c_is_prime := FnS_of m_is_prime F_is_prime.kp o_is_prime (FunD.bindsN (ps := ["number"]) F_is_prime fun _ _ _ _ _ _ us hl => match us, hl with | [_], _ => rfl)
  have o_check_size := ok_check_size (P := P) (w := w) (base := base) t g_OutOfRange  F_check_size
  have c_check_size := FnS_of m_check_size F_check_size.kp o_check_size (FunD.bindsN (ps := ["size"]) F_check_size fun _ _ _ _ _ _ us hl => match us, hl with | [_], _ => rfl)
  have o__law_cell := ok__law_cell (P := P) (w := w) (base := base) t   F__law_cell
  have c__law_cell := FnS_of m__law_cell F__law_cell.kp o__law_cell (FunD.bindsN (ps := ["script", "k"]) F__law_cell fun _ _ _ _ _ _ us hl => match us, hl with | [_, _], _ => rfl)
  have o__law_mixed := ok__law_mixed (P := P) (w := w) (base := base) t   F__law_mixed
  have c__law_mixed := FnS_of m__law_mixed F__law_mixed.kp o__law_mixed (FunD.bindsN (ps := ["cell", "k"]) F__law_mixed fun _ _ _ _ _ _ us hl => match us, hl with | [_, _], _ => rfl)
  have o__law_integer := ok__law_integer (P := P) (w := w) (base := base) t   F__law_integer
  have c__law_integer := FnS_of m__law_integer F__law_integer.kp o__law_integer (FunD.bindsN (ps := ["actual"]) F__law_integer fun _ _ _ _ _ _ us hl => match us, hl with | [_], _ => rfl)
  have o__law_is_prime := ok__law_is_prime (P := P) (w := w) (base := base) t   F__law_is_prime
  have c__law_is_prime := FnS_of m__law_is_prime F__law_is_prime.kp o__law_is_prime (FunD.bindsN (ps := ["number"]) F__law_is_prime fun _ _ _ _ _ _ us hl => match us, hl with | [_], _ => rfl)
  have o__law_power := ok__law_power (P := P) (w := w) (base := base) t   F__law_power
  have c__law_power := FnS_of m__law_power F__law_power.kp o__law_power (FunD.bindsN (ps := ["a", "exponent", "prime"]) F__law_power fun _ _ _ _ _ _ us hl => match us, hl with | [_, _, _], _ => rfl)
  have o__law_size := ok__law_size (P := P) (w := w) (base := base) t   F__law_size
  have c__law_size := FnS_of m__law_size F__law_size.kp o__law_size (FunD.bindsN (ps := ["cell"]) F__law_size fun _ _ _ _ _ _ us hl => match us, hl with | [_], _ => rfl)
  have o_inverse := ok_inverse (P := P) (w := w) (base := base) t g_NotThere c_check_modulus F_inverse
  have c_inverse := FnS_of m_inverse F_inverse.kp o_inverse (FunD.bindsN (ps := ["a", "k"]) F_inverse fun _ _ _ _ _ _ us hl => match us, hl with | [_, _], _ => rfl)
  have o_power := ok_power (P := P) (w := w) (base := base) t g_OutOfRange c_check_modulus F_power
  have c_power := FnS_of m_power F_power.kp o_power (FunD.bindsN (ps := ["a", "exponent", "k"]) F_power fun _ _ _ _ _ _ us hl => match us, hl with | [_, _, _], _ => rfl)
  have o_check_prime := ok_check_prime (P := P) (w := w) (base := base) t g_NotThere c_is_prime F_check_prime
  have c_check_prime := FnS_of m_check_prime F_check_prime.kp o_check_prime (FunD.bindsN (ps := ["prime", "size"]) F_check_prime fun _ _ _ _ _ _ us hl => match us, hl with | [_, _], _ => rfl)
  have o_transform_primes := ok_transform_primes (P := P) (w := w) (base := base) t g_OutOfRange c_check_size c_is_prime F_transform_primes
  have c_transform_primes := FnS_of m_transform_primes F_transform_primes.kp o_transform_primes (FunD.bindsN (ps := ["size", "count", "least"]) F_transform_primes fun _ _ _ _ _ _ us hl => match us, hl with | [_, _, _], _ => rfl)
  have o__law_is_list := ok__law_is_list (P := P) (w := w) (base := base) t  c__law_integer F__law_is_list
  have c__law_is_list := FnS_of m__law_is_list F__law_is_list.kp o__law_is_list (FunD.bindsN (ps := ["actual", "due"]) F__law_is_list fun _ _ _ _ _ _ us hl => match us, hl with | [_, _], _ => rfl)
  have o__law_wide := ok__law_wide (P := P) (w := w) (base := base) t  c__law_mixed F__law_wide
  have c__law_wide := FnS_of m__law_wide F__law_wide.kp o__law_wide (FunD.bindsN (ps := ["cell", "k", "most"]) F__law_wide fun _ _ _ _ _ _ us hl => match us, hl with | [_, _, _], _ => rfl)
  have o__law_primes := ok__law_primes (P := P) (w := w) (base := base) t  c__law_is_prime F__law_primes
  have c__law_primes := FnS_of m__law_primes F__law_primes.kp o__law_primes (FunD.bindsN (ps := ["size", "count", "least"]) F__law_primes fun _ _ _ _ _ _ us hl => match us, hl with | [_, _, _], _ => rfl)
  have o__law_values := ok__law_values (P := P) (w := w) (base := base) t  c__law_power F__law_values
  have c__law_values := FnS_of m__law_values F__law_values.kp o__law_values (FunD.bindsN (ps := ["a", "root", "prime"]) F__law_values fun _ _ _ _ _ _ us hl => match us, hl with | [_, _, _], _ => rfl)
  have o_find_root := ok_find_root (P := P) (w := w) (base := base) t  c_check_size c_check_prime c_power F_find_root
  have c_find_root := FnS_of m_find_root F_find_root.kp o_find_root (FunD.bindsN (ps := ["prime", "size"]) F_find_root fun _ _ _ _ _ _ us hl => match us, hl with | [_, _], _ => rfl)
  have o__law_poly := ok__law_poly (P := P) (w := w) (base := base) t  c__law_wide F__law_poly
  have c__law_poly := FnS_of m__law_poly F__law_poly.kp o__law_poly (FunD.bindsN (ps := ["cell", "size", "most"]) F__law_poly fun _ _ _ _ _ _ us hl => match us, hl with | [_, _, _], _ => rfl)
  have o_transform := ok_transform (P := P) (w := w) (base := base) t  c_find_root F_transform
  have c_transform := FnS_of m_transform F_transform.kp o_transform (FunD.bindsN (ps := ["a", "prime"]) F_transform fun _ _ _ _ _ _ us hl => match us, hl with | [_, _], _ => rfl)
  have o_transform_back := ok_transform_back (P := P) (w := w) (base := base) t  c_inverse c_find_root c_power F_transform_back
  have c_transform_back := FnS_of m_transform_back F_transform_back.kp o_transform_back (FunD.bindsN (ps := ["values", "prime"]) F_transform_back fun _ _ _ _ _ _ us hl => match us, hl with | [_, _], _ => rfl)
  have o__law_told := ok__law_told (P := P) (w := w) (base := base) t g_NotThere g_OutOfRange g_PurseError c_find_root c_transform c_transform_back c_transform_primes F__law_told
  have c__law_told := FnS_of m__law_told F__law_told.kp o__law_told (FunD.bindsN (ps := ["which", "a", "prime"]) F__law_told fun _ _ _ _ _ _ us hl => match us, hl with | [_, _, _], _ => rfl)
  have o__law_bounds := ok__law_bounds (P := P) (w := w) (base := base) t  c__law_is_prime c__law_told F__law_bounds
  have c__law_bounds := FnS_of m__law_bounds F__law_bounds.kp o__law_bounds (FunD.bindsN (ps := ["a", "prime"]) F__law_bounds fun _ _ _ _ _ _ us hl => match us, hl with | [_, _], _ => rfl)
  exact ok_law t  c__law_size c__law_cell c_transform_primes c__law_is_list c__law_primes c_find_root c__law_integer c__law_power c__law_poly c_transform c__law_values c_transform_back c__law_bounds F_law
end K05
open PySem PySem.W PySem.Calls PyProof.Rows
theorem PySem.Challenge.cw_noisepurse_k05_transforms_holds : PySem.Challenge.rw_noisepurse_k05_transforms.Holds := by
  w_on; o_law
  refine HandSHeadRun.head_any (r := OpenLaw.row PySem.Challenge.rw_noisepurse_k05_transforms) (q := view (OpenLaw.row PySem.Challenge.rw_noisepurse_k05_transforms).prog [31]) (H := K05.hk) (ob := K05.ob) (M := 4000) (loose := ["PurseError", "OutOfRange", "NotThere", "check_modulus", "inverse", "power", "is_prime", "check_size", "check_prime", "find_root", "transform_primes", "transform", "transform_back", "_law_cell", "_law_mixed", "_law_integer", "_law_is_list", "_law_wide", "_law_poly", "_law_is_prime", "_law_primes", "_law_power", "_law_values", "_law_told", "_law_bounds", "_law_size"]) (d := HandSHeadRun.topDef (OpenLaw.row PySem.Challenge.rw_noisepurse_k05_transforms).prog 31) (kwd := []) K05.ob_eq
    (by kernel_rfl) (fun s => by kernel_rfl) K05.run (by kernel_rfl) (by kernel_rfl) (by kernel_rfl) (by rfl) (by first | assumption | decide +kernel) (by decide +kernel) ⟨rfl, rfl, rfl, rfl, rfl, by decide +kernel⟩ ?hw ?hc
  case hw => w_witness2
  case hc =>
    refine VL.walk_ofV (l := PySem.Challenge.rw_noisepurse_k05_transforms) (n := 63) (k := 7) (x := "script") rfl (by decide) (by kernel_rfl) ⟨rfl, by decide, by decide⟩ ?F
    intro w mg fa h Y G hmg0
    obtain ⟨K, KX, c⟩ := Y
    have hmg : mg ("law" : PySem.Str) = some (.ref fa) := by
      have e : (HandSHeadRun.topDef (OpenLaw.row PySem.Challenge.rw_noisepurse_k05_transforms).prog 31).name = ("law" : PySem.Str) := by kernel_rfl
      rw [← e]
      exact hmg0
    obtain ⟨fd, hb, hF⟩ := K05.facts (P := (PySem.Challenge.rw_noisepurse_k05_transforms).prog) (w := w) KX G hmg c
    exact ⟨K, fd, VL.spF ⟨K, mg, none⟩ 1 K05.f_law 0, KX, c.nl, hb, fun H a ns hl hbits hS => VL.law_sp hS (K05.math ns hl hbits), hF⟩
