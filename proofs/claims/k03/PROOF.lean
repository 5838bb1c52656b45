import PyProof.Rows.All
import Wide.All
import OpenK.AllK
import Wide.FinOn
import PyProof.EqAt
import PyProof.EqKinds
import PyProof.TupleCall
import HandS.ForMost
import HandS.ForExc
import HandS.Wide
import HandS.WideBits
import HandS.Rev
import HandS.IsInst
import HandS.ExcIs
import HandS.Defaults
import HandS.Style
import HandS.Conv
import HandS.Deep
import HandS.HeadHook1
import HandS.HeadHook2
import HandS.TryOnly
import HandS.Iter
import HandS.Head0
import HandS.Head1
import HandS.Head2
import HandS.HeadEnd
import HandS.EndBits
import PySem.Challenge.RW_noisepurse_k03_norms_and_worst_partners
set_option Elab.async false
set_option linter.all false
set_option maxRecDepth 100000
set_option maxHeartbeats 0
/-! VLCore: values as trees, what the pieces of Python do to them (plain Lean). -/
namespace VL
open PySem
/-! ### errors, values -/
inductive Er where
  | purse | range | malformed | refused | notThere | spent | badLine | valueE | indexE | keyE | zeroE | typeE
  deriving DecidableEq
def Er.name : Er → Str
  | .purse => "PurseError" | .range => "OutOfRange" | .malformed => "Malformed" | .refused => "Refused" | .notThere => "NotThere" | .spent => "Spent" | .badLine => "BadLine"
  | .valueE => "ValueError" | .indexE => "IndexError" | .keyE => "KeyError" | .zeroE => "ZeroDivisionError" | .typeE => "TypeError"
def Er.own : Er → Bool
  | .purse | .range | .malformed | .refused | .notThere | .spent | .badLine => true
  | _ => false
/-- is a's class b's, or below it -/
def Er.sub (a b : Er) : Bool := decide (a = b) || (a.own && (decide (b = .purse) || decide (b = .valueE)))
inductive D where
  | non | bl (b : Bool) | int (i : Int) | str (x : Str) | byt (b : Array UInt8)
  | lst (xs : List D) | tup (xs : List D) | ins (c : Nat) (fs : List D)
  deriving Inhabited
abbrev Env := List (Option D)
inductive Res (α : Type) where
  | ok (a : α) | exc (e : Er) | stuck
def Res.bind {α β : Type} (r : Res α) (f : α → Res β) : Res β := match r with
  | .ok a => f a
  | .exc e => .exc e
  | .stuck => .stuck
theorem Res.ok_bind {α β : Type} (a : α) (f : α → Res β) : (Res.ok a).bind f = f a := rfl
theorem Res.exc_bind {α β : Type} (e : Er) (f : α → Res β) : (Res.exc e).bind f = .exc e := rfl
theorem Res.stuck_bind {α β : Type} (f : α → Res β) : Res.stuck.bind f = .stuck := rfl
inductive Fl where
  | nx (η : Env) | rt (d : D) | bk (η : Env) | ct (η : Env) | ex (e : Er) (η : Env) | stuck
abbrev M (α : Type) := Env → Res α
/-- the classes by number: name, fields in the order in which __init__ stores them -/
def clsTab : Nat → Str × List Str
  | 0 => ("Gadget", ["modulus", "base", "levels", "unit"])
  | 1 => ("Refresher", ["modulus", "length", "degree", "shifter", "switcher", "error"])
  | 2 => ("Bfv", ["size", "plain", "modulus", "error", "weight", "base", "count"])
  | 3 => ("Chain", ["degree", "plain", "steps", "top"])
  | 4 => ("Thing", ["chain", "level", "factor", "weight", "purse", "modulus", "_parts"])
  | 5 => ("PublicKey", ["chain", "weight", "error", "_parts"])
  | 6 => ("ChangeKey", ["chain", "base", "special", "weight", "spread", "_pairs"])
  | 7 => ("Bounds", ["chain", "weight", "error", "width", "base", "special", "count", "spread"])
  | 8 => ("Slots", ["degree", "plain", "row"])
  | 9 => ("Circuit", ["inputs", "gates", "outputs"])
  | 10 => ("Program", ["degree", "plain", "inputs", "deeds", "outputs"])
  | 11 => ("KeyRing", ["public", "reducing", "turners"])
  | 12 => ("Net", ["slots", "inputs", "nodes", "outputs"])
  | 13 => ("Setting", ["safe", "net", "refresher", "purse", "full", "fits"])
  | _ => ("?", [])
def nCls : Nat := 14
/-! ### data that == compares -/
mutual
def D.toPD : D → PyData
  | .non => .none
  | .bl b => .bool b
  | .int i => .int i
  | .str x => .str x
  | .lst xs => .list (D.toPDs xs)
  | .tup xs => .tuple (D.toPDs xs)
  | .byt _ => .none
  | .ins _ _ => .none
def D.toPDs : List D → List PyData
  | [] => []
  | d :: ds => D.toPD d :: D.toPDs ds
end
mutual
/-- none, bools, ints, texts, lists and tuples of such -/
def D.plain : D → Bool
  | .non => true
  | .bl _ => true
  | .int _ => true
  | .str _ => true
  | .lst xs => D.plains xs
  | .tup xs => D.plains xs
  | .byt _ => false
  | .ins _ _ => false
def D.plains : List D → Bool
  | [] => true
  | d :: ds => D.plain d && D.plains ds
end
def D.eqOk (d : D) : Bool := d.plain && SeqAt.shaped d.toPD
def D.eqv (a b : D) : Bool := PyData.eqv a.toPD b.toPD
/-! ### operators -/
def line : Nat := 16777216
def mulOk (i j : Int) : Bool := decide (i.natAbs.log2 + j.natAbs.log2 < 134000000)
def divOk (i j : Int) : Bool := decide (0 < j) && (decide (j.natAbs.log2 < 9000) || decide (i.natAbs.log2 ≤ j.natAbs.log2 + 4000))
def shlOk (i j : Int) : Bool := decide (0 ≤ j) && decide (i.natAbs.log2 + 1 + j.toNat ≤ 134000000)
def powOk (i j : Int) : Bool := decide (0 ≤ j) && (decide (j ≤ 1000000) && decide (i.natAbs < 2 ^ 64))
def opAdd : D → D → Res D
  | .int i, .int j => .ok (.int (i + j))
  | .lst xs, .lst ys => if xs.length + ys.length ≤ line then .ok (.lst (xs ++ ys)) else .stuck
  | .tup xs, .tup ys => if xs ≠ [] ∧ xs.length + ys.length ≤ line then .ok (.tup (xs ++ ys)) else .stuck
  | _, _ => .stuck
def opSub : D → D → Res D
  | .int i, .int j => .ok (.int (i - j))
  | _, _ => .stuck
def opMul : D → D → Res D
  | .int i, .int j => if mulOk i j then .ok (.int (i * j)) else .stuck
  | .lst xs, .int k => if k < 16777217 ∧ -16777217 < k ∧ xs.length * k.toNat ≤ line then .ok (.lst (List.replicate k.toNat xs).flatten) else .stuck
  | _, _ => .stuck
def opDiv : D → D → Res D
  | .int i, .int j => if divOk i j then .ok (.int (i / j)) else .stuck
  | _, _ => .stuck
def opMod : D → D → Res D
  | .int i, .int j => if 0 < j then .ok (.int (i % j)) else .stuck
  | _, _ => .stuck
def opPow : D → D → Res D
  | .int i, .int j => if powOk i j then .ok (.int (i ^ j.toNat)) else .stuck
  | _, _ => .stuck
def opShl : D → D → Res D
  | .int i, .int j => if shlOk i j then .ok (.int (i * 2 ^ j.toNat)) else .stuck
  | _, _ => .stuck
def opShr : D → D → Res D
  | .int i, .int j => if 0 ≤ j then .ok (.int (i / 2 ^ j.toNat)) else .stuck
  | _, _ => .stuck
def opAnd : D → D → Res D
  | .int i, .int j => .ok (.int (Builtin.bitAnd i j))
  | _, _ => .stuck
def opOr : D → D → Res D
  | .int i, .int j => .ok (.int (Builtin.bitOr i j))
  | _, _ => .stuck
def opXor : D → D → Res D
  | .int i, .int j => .ok (.int (Builtin.bitXor i j))
  | _, _ => .stuck
def opNeg : D → Res D
  | .int i => .ok (.int (-i))
  | _ => .stuck
def opInv : D → Res D
  | .int i => .ok (.int (Builtin.bitNot i))
  | _ => .stuck
def cmpI (p : Int → Int → Bool) : D → D → Res D
  | .int i, .int j => .ok (.bl (p i j))
  | _, _ => .stuck
abbrev opLt := cmpI fun i j => decide (i < j)
abbrev opLe := cmpI fun i j => decide (i ≤ j)
abbrev opGt := cmpI fun i j => decide (j < i)
abbrev opGe := cmpI fun i j => decide (j ≤ i)
def opEq (a b : D) : Res D := if a.eqOk && b.eqOk then .ok (.bl (D.eqv a b)) else .stuck
def opNe (a b : D) : Res D := if a.eqOk && b.eqOk then .ok (.bl (!D.eqv a b)) else .stuck
def D.flat : D → Bool
  | .non => true
  | .bl _ => true
  | .int _ => true
  | .str _ => true
  | _ => false
def opIn : D → D → Res D
  | x, .lst ys => if x.eqOk && (D.lst ys).eqOk then .ok (.bl (ys.any fun y => D.eqv y x)) else .stuck
  | _, _ => .stuck
def opNotIn : D → D → Res D
  | x, .lst ys => if x.eqOk && (D.lst ys).eqOk then .ok (.bl (!ys.any fun y => D.eqv y x)) else .stuck
  | _, _ => .stuck
def opIsB : D → D → Res D
  | .bl a, .bl b => .ok (.bl (decide (a = b)))
  | _, _ => .stuck
def opIsNotB : D → D → Res D
  | .bl a, .bl b => .ok (.bl (!decide (a = b)))
  | _, _ => .stuck
def D.isNon : D → Bool
  | .non => true
  | _ => false
def opIsNone : D → Res D := fun d => .ok (.bl d.isNon)
def opNotNone : D → Res D := fun d => .ok (.bl (!d.isNon))
def D.truth : D → Res Bool
  | .non => .ok false
  | .bl b => .ok b
  | .int i => .ok (i != 0)
  | .lst xs => .ok (!xs.isEmpty)
  | .tup xs => .ok (!xs.isEmpty)
  | _ => .stuck
/-! ### built-in functions -/
def fAbs : List D → Res D
  | [.int i] => .ok (.int (if i < 0 then -i else i))
  | _ => .stuck
def fInt : List D → Res D
  | [.int i] => .ok (.int i)
  | [.bl b] => .ok (.int (if b then 1 else 0))
  | _ => .stuck
def fLen : List D → Res D
  | [.lst xs] => .ok (.int xs.length)
  | [.tup xs] => .ok (.int xs.length)
  | _ => .stuck
def fMax2 : List D → Res D
  | [.int i, .int j] => .ok (.int (if j > i then j else i))
  | _ => .stuck
def fMin2 : List D → Res D
  | [.int i, .int j] => .ok (.int (if j < i then j else i))
  | _ => .stuck
def ints? : List D → Option (List Int)
  | [] => some []
  | .int i :: r => (ints? r).map (i :: ·)
  | _ :: _ => none
def maxL : List Int → Int
  | [] => 0
  | [a] => a
  | a :: b :: r => if a < maxL (b :: r) then maxL (b :: r) else a
def minL : List Int → Int
  | [] => 0
  | [a] => a
  | a :: b :: r => if minL (b :: r) < a then minL (b :: r) else a
def fMax : List D → Res D
  | [.lst xs] => (match ints? xs with | some (a :: r) => .ok (.int (maxL (a :: r))) | _ => .stuck)
  | _ => .stuck
def fMin : List D → Res D
  | [.lst xs] => (match ints? xs with | some (a :: r) => .ok (.int (minL (a :: r))) | _ => .stuck)
  | _ => .stuck
def fSum : List D → Res D
  | [.lst xs] => (match ints? xs with | some ns => .ok (.int ns.sum) | _ => .stuck)
  | _ => .stuck
def fList : List D → Res D
  | [.lst xs] => .ok (.lst xs)
  | [.tup xs] => .ok (.lst xs)
  | _ => .stuck
def fTuple : List D → Res D
  | [.lst xs] => .ok (.tup xs)
  | [.tup xs] => .ok (.tup xs)
  | _ => .stuck
/-- isinstance(x, T) of a built-in type -/
def isTy (T : String) : D → Option Bool
  | .non => if T = "int" ∨ T = "bool" ∨ T = "str" ∨ T = "list" ∨ T = "tuple" then some false else none
  | .bl _ => if T = "int" ∨ T = "bool" then some true else if T = "str" ∨ T = "list" ∨ T = "tuple" then some false else none
  | .int _ => if T = "int" then some true else if T = "bool" ∨ T = "str" ∨ T = "list" ∨ T = "tuple" then some false else none
  | .str _ => if T = "str" then some true else if T = "bool" ∨ T = "int" ∨ T = "list" ∨ T = "tuple" then some false else none
  | .lst _ => if T = "list" then some true else if T = "bool" ∨ T = "int" ∨ T = "str" ∨ T = "tuple" then some false else none
  | .tup _ => if T = "tuple" then some true else if T = "bool" ∨ T = "int" ∨ T = "str" ∨ T = "list" then some false else none
  | _ => none
def opIsTy (T : String) (d : D) : Res D := match isTy T d with
  | some b => .ok (.bl b)
  | none => .stuck
/-! ### items and slices -/
def ixOf (n : Nat) (i : Int) : Option Nat := if 0 ≤ i then (if i < n then some i.toNat else none) else if -(n : Int) ≤ i then some (i + n).toNat else none
def atD (xs : List D) (i : Int) : Option D := (ixOf xs.length i).bind fun j => xs[j]?
def opIx : D → D → Res D
  | .lst xs, .int i => (match atD xs i with | some d => .ok d | none => .stuck)
  | .tup xs, .int i => (match atD xs i with | some d => .ok d | none => .stuck)
  | _, _ => .stuck
def slIx (n d : Nat) : Option Int → Nat
  | none => d
  | some v => if v < 0 then (v + n).toNat else min v.toNat n
def cutD (xs : List D) (lo hi : Option Int) : List D := (xs.drop (slIx xs.length 0 lo)).take (slIx xs.length xs.length hi - slIx xs.length 0 lo)
/-! ### expressions -/
def dVar (i : Nat) : M D := fun η => match η[i]? with
  | some (some d) => .ok d
  | _ => .stuck
def dLit (d : D) : M D := fun _ => .ok d
def dOp1 (f : D → Res D) (a : M D) : M D := fun η => (a η).bind f
def dOp2 (f : D → D → Res D) (a b : M D) : M D := fun η => (a η).bind fun x => (b η).bind fun y => f x y
def toB : D → Res Bool
  | .bl b => .ok b
  | _ => .stuck
def dChain (f g : D → D → Res D) (a b c : M D) : M D := fun η => (a η).bind fun x => (b η).bind fun y => (f x y).bind fun r => (toB r).bind fun k => if k then (c η).bind fun z => g y z else .ok (.bl false)
def dAnd (a b : M D) : M D := fun η => (a η).bind fun x => (toB x).bind fun k => if k then b η else .ok (.bl false)
def dOr (a b : M D) : M D := fun η => (a η).bind fun x => (toB x).bind fun k => if k then .ok (.bl true) else b η
def dNot (a : M D) : M D := fun η => (a η).bind fun x => (toB x).bind fun k => .ok (.bl (!k))
def qB (a : M D) : M Bool := fun η => (a η).bind toB
def qTru (a : M D) : M Bool := fun η => (a η).bind D.truth
def qAnd (a b : M Bool) : M Bool := fun η => (a η).bind fun k => if k then b η else .ok false
def qOr (a b : M Bool) : M Bool := fun η => (a η).bind fun k => if k then .ok true else b η
def qNot (a : M Bool) : M Bool := fun η => (a η).bind fun k => .ok (!k)
def dIf (q : M Bool) (a b : M D) : M D := fun η => (q η).bind fun k => if k then a η else b η
def aNil : M (List D) := fun _ => .ok []
def aCons (a : M D) (r : M (List D)) : M (List D) := fun η => (a η).bind fun x => (r η).bind fun xs => .ok (x :: xs)
def dTup (a : M (List D)) : M D := fun η => (a η).bind fun xs => if xs.length ≤ line then .ok (.tup xs) else .stuck
def dLst (a : M (List D)) : M D := fun η => (a η).bind fun xs => if xs.length ≤ line then .ok (.lst xs) else .stuck
def dCall (f : List D → Res D) (a : M (List D)) : M D := fun η => (a η).bind f
abbrev oNone : M (Option Int) := fun _ => .ok none
def toI : D → Res (Option Int)
  | .int i => .ok (some i)
  | _ => .stuck
def oSome (a : M D) : M (Option Int) := fun η => (a η).bind toI
def opSl (x : D) (lo hi : Option Int) : Res D := match x with
  | .lst xs => .ok (.lst (cutD xs lo hi))
  | .tup xs => .ok (.tup (cutD xs lo hi))
  | _ => .stuck
def dSl (a : M D) (lo hi : M (Option Int)) : M D := fun η => (a η).bind fun x => (lo η).bind fun l => (hi η).bind fun h => opSl x l h
/-! ### what a for walks, what it binds -/
def items : D → Res (List D)
  | .lst xs => .ok xs
  | .tup xs => .ok xs
  | _ => .stuck
def iSeq (a : M D) : M (List D) := fun η => (a η).bind items
def rangeD (lo : Int) (n : Nat) : List D := (List.range n).map fun (k : Nat) => D.int (lo + (k : Int))
def lim62 : Int := 4611686018427387904
def iRange1 (a : M D) : M (List D) := fun η => (a η).bind fun x => match x with
  | .int j => if -lim62 ≤ j ∧ j < lim62 then .ok (rangeD 0 j.toNat) else .stuck
  | _ => .stuck
def iRange2 (a b : M D) : M (List D) := fun η => (a η).bind fun x => (b η).bind fun y => match x, y with
  | .int i, .int j => if (-lim62 ≤ i ∧ i < lim62) ∧ (-lim62 ≤ j ∧ j < lim62) then .ok (rangeD i (j - i).toNat) else .stuck
  | _, _ => .stuck
def enumD : Nat → List D → List D
  | _, [] => []
  | k, x :: xs => .tup [.int (k : Int), x] :: enumD (k + 1) xs
def zipD : List D → List D → List D
  | x :: xs, y :: ys => .tup [x, y] :: zipD xs ys
  | _, _ => []
def lstOf : D → Res (List D)
  | .lst xs => .ok xs
  | _ => .stuck
def iEnum (a : M D) : M (List D) := fun η => (a η).bind fun x => (lstOf x).bind fun xs => .ok (enumD 0 xs)
def iZip (a b : M D) : M (List D) := fun η => (a η).bind fun x => (b η).bind fun y => (lstOf x).bind fun xs => (lstOf y).bind fun ys => .ok (zipD xs ys)
def iRev (a : M D) : M (List D) := fun η => (a η).bind fun x => (lstOf x).bind fun xs => .ok xs.reverse
abbrev Bd := D → Env → Option Env
def bName (i : Nat) : Bd := fun d η => if i < η.length then some (η.set i (some d)) else none
def bNil : List D → Env → Option Env := fun ds η => match ds with | [] => some η | _ => none
def bCons (b : Bd) (r : List D → Env → Option Env) : List D → Env → Option Env := fun ds η => match ds with | d :: ds => (b d η).bind (r ds) | [] => none
def bTup (r : List D → Env → Option Env) : Bd := fun d η => match d with | .tup ds => r ds η | .lst ds => r ds η | _ => none
/-- the slots of a comprehension's own names forgotten -/
def wipeE (η : Env) : List Nat → Env
  | [] => η
  | v :: vs => (wipeE η vs).set v none
def compGo (b : Bd) (q : M Bool) (e : M D) (η : Env) : List D → List D → Res (List D)
  | [], acc => .ok acc
  | x :: xs, acc => (match b x η with
    | some η1 => (match q η1 with
      | .ok true => (match e η1 with
        | .ok d => if acc.length < line then compGo b q e η xs (acc ++ [d]) else .stuck
        | _ => .stuck)
      | .ok false => compGo b q e η xs acc
      | _ => .stuck)
    | none => .stuck)
def dComp (it : M (List D)) (b : Bd) (q : M Bool) (e : M D) (own : List Nat) : M D := fun η => (it η).bind fun xs => (compGo b q e (wipeE η own) xs []).bind fun ds => .ok (.lst ds)
abbrev qYes : M Bool := fun _ => .ok true
/-! ### statements -/
def onRes {α : Type} (r : Res α) (η : Env) (k : α → Fl) : Fl := match r with
  | .ok a => k a
  | .exc e => .ex e η
  | .stuck => .stuck
def sNext : Env → Fl := fun η => .nx η
def sBreak : Env → Fl := fun η => .bk η
def sCont : Env → Fl := fun η => .ct η
def sSeq (a b : Env → Fl) : Env → Fl := fun η => match a η with
  | .nx η' => b η'
  | r => r
def sExpr (a : M D) : Env → Fl := fun η => onRes (a η) η fun _ => .nx η
def sAsg (a : M D) (b : Bd) : Env → Fl := fun η => onRes (a η) η fun d => match b d η with | some η' => .nx η' | none => .stuck
def sAug (i : Nat) (f : D → D → Res D) (a : M D) : Env → Fl := fun η => onRes (dOp2 f (dVar i) a η) η fun d => if i < η.length then .nx (η.set i (some d)) else .stuck
/-- x[i] = e, x the list in the slot k -/
def setD (xs : List D) (i : Int) (d : D) : Option (List D) := (ixOf xs.length i).map fun j => xs.set j d
def lstAt (η : Env) (k : Nat) : Res (List D) := match η[k]? with
  | some (some (.lst xs)) => .ok xs
  | _ => .stuck
def sSet (k : Nat) (i : M D) (a : M D) : Env → Fl := fun η => onRes (a η) η fun d => onRes (lstAt η k) η fun xs => onRes (i η) η fun x => match x with
  | .int z => (match setD xs z d with | some ys => .nx (η.set k (some (.lst ys))) | none => .stuck)
  | _ => .stuck
def sApp (k : Nat) (a : M D) : Env → Fl := fun η => onRes (lstAt η k) η fun xs => onRes (a η) η fun d => if xs.length < line then .nx (η.set k (some (.lst (xs ++ [d])))) else .stuck
def sRet (a : M D) : Env → Fl := fun η => onRes (a η) η fun d => .rt d
def sRetN : Env → Fl := fun _ => .rt .non
def sIf (q : M Bool) (a b : Env → Fl) : Env → Fl := fun η => onRes (q η) η fun k => if k then a η else b η
def sRaise (e : Er) : Env → Fl := fun η => .ex e η
def forGo (b : Bd) (body : Env → Fl) : List D → Env → Fl
  | [], η => .nx η
  | x :: xs, η => (match b x η with
    | some η1 => (match body η1 with
      | .nx η' => forGo b body xs η'
      | .ct η' => forGo b body xs η'
      | .bk η' => .nx η'
      | r => r)
    | none => .stuck)
def sFor (it : M (List D)) (b : Bd) (body : Env → Fl) : Env → Fl := fun η => onRes (it η) η fun xs => forGo b body xs η
def whileGo (q : M Bool) (body : Env → Fl) : Nat → Env → Fl
  | 0, _ => .stuck
  | n + 1, η => onRes (q η) η fun k => if k then (match body η with
    | .nx η' => whileGo q body n η'
    | .ct η' => whileGo q body n η'
    | .bk η' => .nx η'
    | r => r) else .nx η
open Classical in
noncomputable def sWhile (q : M Bool) (body : Env → Fl) : Env → Fl := fun η => if h : ∃ n, whileGo q body n η ≠ .stuck then whileGo q body (Classical.choose h) η else .stuck
/-- try: body / except c as i: h (the name's slot goes behind the suite) -/
def goneFl (i : Nat) : Fl → Fl
  | .nx η => .nx (η.set i none)
  | .bk η => .bk (η.set i none)
  | .ct η => .ct (η.set i none)
  | .ex _ _ => .stuck
  | r => r
def sTryAs (body : Env → Fl) (c : Er) (i : Nat) (h : Er → Env → Fl) : Env → Fl := fun η => match body η with
  | .ex e η' => if e.own = true ∧ i < η'.length then (if e.sub c then goneFl i (h e (η'.set i none)) else .ex e η') else .stuck
  | r => r
def noEx : Fl → Fl
  | .ex _ _ => .stuck
  | r => r
def sTryOnly (body : Env → Fl) (c : Er) (h : Env → Fl) : Env → Fl := fun η => match body η with
  | .ex e η' => if e.own then (if e.sub c then noEx (h η') else .ex e η') else .stuck
  | r => r
/-- isinstance(e, c), e the error held -/
def dIsEr (e c : Er) : M D := fun _ => if e.own && c.own then .ok (.bl (e.sub c)) else .stuck
/-! ### defs -/
def mkFn (n m : Nat) (body : Env → Fl) : List D → Res D := fun ds => if ds.length = n then (match body (ds.map some ++ List.replicate (m - n) none) with
  | .rt d => .ok d
  | .nx _ => .ok .non
  | .ex e _ => .exc e
  | _ => .stuck) else .stuck
end VL
/-! VLRel: a tree is held by the heap; the slots of a frame, owned or shared. -/
namespace VL
open PySem PySem.Spec L2
structure Sta where
  K : PySem.W.Frag
  mg : Str → Option Value
  /-- in an except suite: the slot of the error's name, the error, its class -/
  hot : Option (Nat × Addr × Er)
mutual
def Rep (S : Sta) (H : Hp) : D → V → Prop
  | .non, v => v = .non
  | .bl b, v => v = .bl b
  | .int i, v => v = .int i
  | .str x, v => v = .str x
  | .byt b, v => v = .byt b
  | .lst ds, v => ∃ (a : Addr) (vs : List V), v = .ref a ∧ Rd H a (.lst vs) ∧ Reps S H ds vs
  | .tup ds, v => ∃ (a : Addr) (vs : List V), v = .ref a ∧ SqT S.K H a vs ∧ Reps S H ds vs
  | .ins c ds, v => ∃ (a C dx : Addr) (fs : List (Str × V)), v = .ref a ∧ S.mg (clsTab c).1 = some (.ref C) ∧ H a = some (.ins C dx fs) ∧ fs.map (·.1) = (clsTab c).2 ∧ Reps S H ds (fs.map (·.2))
def Reps (S : Sta) (H : Hp) : List D → List V → Prop
  | [], vs => vs = []
  | d :: ds, vs => ∃ (v : V) (ws : List V), vs = v :: ws ∧ Rep S H d v ∧ Reps S H ds ws
end
section
variable {S : Sta} {H H' : Hp}
mutual
theorem Rep.same (e : Same H H') : ∀ (d : D) (v : V), Rep S H d v → Rep S H' d v
  | .non, _, h => h
  | .bl _, _, h => h
  | .int _, _, h => h
  | .str _, _, h => h
  | .byt _, _, h => h
  | .lst ds, v, h => by
    unfold Rep at h ⊢
    obtain ⟨a, vs, h1, h2, h3⟩ := h
    refine ⟨a, vs, h1, ?_, Reps.same e ds vs h3⟩
    rcases h2 with h | ⟨o, h⟩
    · exact .inl (e _ _ h)
    · exact .inr ⟨o, e _ _ h⟩
  | .tup ds, v, h => by
    unfold Rep at h ⊢
    obtain ⟨a, vs, h1, h2, h3⟩ := h
    refine ⟨a, vs, h1, ?_, Reps.same e ds vs h3⟩
    rcases h2 with (h | ⟨o, h⟩) | h
    · exact .inl (.inl (e _ _ h))
    · exact .inl (.inr ⟨o, e _ _ h⟩)
    · exact .inr h
  | .ins c ds, v, h => by
    unfold Rep at h ⊢
    obtain ⟨a, C, dx, fs, h1, h2, h3, h4, h5⟩ := h
    exact ⟨a, C, dx, fs, h1, h2, e _ _ h3, h4, Reps.same e ds _ h5⟩
theorem Reps.same (e : Same H H') : ∀ (ds : List D) (vs : List V), Reps S H ds vs → Reps S H' ds vs
  | [], vs, h => h
  | d :: ds, vs, h => by
    unfold Reps at h ⊢
    obtain ⟨v, ws, h1, h2, h3⟩ := h
    exact ⟨v, ws, h1, Rep.same e d v h2, Reps.same e ds ws h3⟩
end
theorem Reps.nil_iff {vs : List V} : Reps S H [] vs ↔ vs = [] := by unfold Reps; exact Iff.rfl
theorem Reps.cons_iff {d : D} {ds : List D} {vs : List V} : Reps S H (d :: ds) vs ↔ ∃ v ws, vs = v :: ws ∧ Rep S H d v ∧ Reps S H ds ws := by
  constructor
  · intro h; unfold Reps at h; exact h
  · intro h; unfold Reps; exact h
theorem Reps.length : ∀ {ds : List D} {vs : List V}, Reps S H ds vs → vs.length = ds.length
  | [], vs, h => by rw [Reps.nil_iff.mp h] <;> rfl
  | d :: ds, vs, h => by
    obtain ⟨v, ws, rfl, _, h3⟩ := Reps.cons_iff.mp h
    rw [List.length_cons, List.length_cons, Reps.length h3]
theorem Reps.get : ∀ {ds : List D} {vs : List V} {i : Nat} {d : D}, Reps S H ds vs → ds[i]? = some d → ∃ v, vs[i]? = some v ∧ Rep S H d v
  | [], _, _, _, _, e => by simp at e
  | d :: ds, vs, 0, d', h, e => by
    obtain ⟨v, ws, rfl, h2, _⟩ := Reps.cons_iff.mp h
    have e' : d = d' := by simpa using e
    subst e'
    exact ⟨v, rfl, h2⟩
  | d :: ds, vs, i + 1, d', h, e => by
    obtain ⟨v, ws, rfl, _, h3⟩ := Reps.cons_iff.mp h
    obtain ⟨v', q1, q2⟩ := Reps.get (i := i) h3 (by simpa using e)
    exact ⟨v', by simpa using q1, q2⟩
theorem Reps.set : ∀ {ds : List D} {vs : List V} (i : Nat) {d : D} {v : V}, Reps S H ds vs → Rep S H d v → Reps S H (ds.set i d) (vs.set i v)
  | [], vs, i, d, v, h, _ => by rw [Reps.nil_iff.mp h]; exact Reps.nil_iff.mpr rfl
  | e :: ds, vs, 0, d, v, h, r => by
    obtain ⟨v', ws, rfl, _, h3⟩ := Reps.cons_iff.mp h
    exact Reps.cons_iff.mpr ⟨v, ws, rfl, r, h3⟩
  | e :: ds, vs, i + 1, d, v, h, r => by
    obtain ⟨v', ws, rfl, h2, h3⟩ := Reps.cons_iff.mp h
    exact Reps.cons_iff.mpr ⟨v', ws.set i v, rfl, h2, Reps.set i h3 r⟩
theorem Reps.append : ∀ {ds es : List D} {vs ws : List V}, Reps S H ds vs → Reps S H es ws → Reps S H (ds ++ es) (vs ++ ws)
  | [], es, vs, ws, h, r => by rw [Reps.nil_iff.mp h]; exact r
  | d :: ds, es, vs, ws, h, r => by
    obtain ⟨v', us, rfl, h2, h3⟩ := Reps.cons_iff.mp h
    exact Reps.cons_iff.mpr ⟨v', us ++ ws, rfl, h2, Reps.append h3 r⟩
theorem Reps.one {d : D} {v : V} (h : Rep S H d v) : Reps S H [d] [v] := Reps.cons_iff.mpr ⟨v, [], rfl, h, Reps.nil_iff.mpr rfl⟩
theorem Reps.drop : ∀ {ds : List D} {vs : List V} (n : Nat), Reps S H ds vs → Reps S H (ds.drop n) (vs.drop n)
  | _, _, 0, h => h
  | [], vs, n + 1, h => by rw [Reps.nil_iff.mp h]; exact Reps.nil_iff.mpr rfl
  | d :: ds, vs, n + 1, h => by
    obtain ⟨v', us, rfl, h2, h3⟩ := Reps.cons_iff.mp h
    exact Reps.drop n h3
theorem Reps.take : ∀ {ds : List D} {vs : List V} (n : Nat), Reps S H ds vs → Reps S H (ds.take n) (vs.take n)
  | _, _, 0, h => Reps.nil_iff.mpr rfl
  | [], vs, n + 1, h => by rw [Reps.nil_iff.mp h]; exact Reps.nil_iff.mpr rfl
  | d :: ds, vs, n + 1, h => by
    obtain ⟨v', us, rfl, h2, h3⟩ := Reps.cons_iff.mp h
    exact Reps.cons_iff.mpr ⟨v', us.take n, rfl, h2, Reps.take n h3⟩
theorem Reps.reverse : ∀ {ds : List D} {vs : List V}, Reps S H ds vs → Reps S H ds.reverse vs.reverse
  | [], vs, h => by rw [Reps.nil_iff.mp h]; exact Reps.nil_iff.mpr rfl
  | d :: ds, vs, h => by
    obtain ⟨v', us, rfl, h2, h3⟩ := Reps.cons_iff.mp h
    rw [List.reverse_cons, List.reverse_cons]
    exact Reps.append (Reps.reverse h3) (Reps.one h2)
theorem Reps.rep {ds : List D} {vs : List V} (h : Reps S H ds vs) : ∀ k : Nat, Reps S H (List.replicate k ds).flatten (List.replicate k vs).flatten
  | 0 => Reps.nil_iff.mpr rfl
  | k + 1 => by
    rw [List.replicate_succ, List.replicate_succ, List.flatten_cons, List.flatten_cons]
    exact Reps.append h (Reps.rep h k)
theorem Reps.ints : ∀ {ds : List D} {vs : List V} {ns : List Int}, Reps S H ds vs → ints? ds = some ns → vs = ns.map V.int
  | [], vs, ns, h, e => by
    rw [Reps.nil_iff.mp h]
    have e' : ([] : List Int) = ns := Option.some.inj e
    rw [← e']; rfl
  | .int i :: ds, vs, ns, h, e => by
    obtain ⟨v', us, rfl, h2, h3⟩ := Reps.cons_iff.mp h
    unfold ints? at e
    obtain ⟨ms, e1, e2⟩ := Option.map_eq_some_iff.mp e
    unfold Rep at h2
    rw [h2, Reps.ints h3 e1, ← e2]; rfl
  | .non :: _, _, _, _, e => by simp [ints?] at e
  | .bl _ :: _, _, _, _, e => by simp [ints?] at e
  | .str _ :: _, _, _, _, e => by simp [ints?] at e
  | .byt _ :: _, _, _, _, e => by simp [ints?] at e
  | .lst _ :: _, _, _, _, e => by simp [ints?] at e
  | .tup _ :: _, _, _, _, e => by simp [ints?] at e
  | .ins _ _ :: _, _, _, _, e => by simp [ints?] at e
theorem Reps.of_ints : ∀ ns : List Int, Reps S H (ns.map D.int) (ns.map V.int)
  | [] => Reps.nil_iff.mpr rfl
  | n :: ns => Reps.cons_iff.mpr ⟨.int n, ns.map V.int, rfl, by unfold Rep; rfl, Reps.of_ints ns⟩
mutual
theorem Rep.dp : ∀ (d : D) (v : V), d.plain = true → Rep S H d v → Dp S.K H v d.toPD
  | .non, v, _, h => by unfold Rep at h; rw [h]; exact .non
  | .bl b, v, _, h => by unfold Rep at h; rw [h]; exact .bl b
  | .int i, v, _, h => by unfold Rep at h; rw [h]; exact .int i
  | .str x, v, _, h => by unfold Rep at h; rw [h]; exact .str x
  | .lst ds, v, p, h => by
    unfold Rep at h
    obtain ⟨a, vs, rfl, h2, h3⟩ := h
    unfold D.plain at p
    unfold D.toPD
    exact .lst (.inl h2) (Reps.dps ds vs p h3)
  | .tup ds, v, p, h => by
    unfold Rep at h
    obtain ⟨a, vs, rfl, h2, h3⟩ := h
    unfold D.plain at p
    unfold D.toPD
    exact .tup h2 (Reps.dps ds vs p h3)
  | .byt _, _, p, _ => by simp [D.plain] at p
  | .ins _ _, _, p, _ => by simp [D.plain] at p
theorem Reps.dps : ∀ (ds : List D) (vs : List V), D.plains ds = true → Reps S H ds vs → DpAll S.K H vs (D.toPDs ds)
  | [], vs, _, h => by rw [Reps.nil_iff.mp h]; unfold D.toPDs; exact .nil
  | d :: ds, vs, p, h => by
    obtain ⟨v', us, rfl, h2, h3⟩ := Reps.cons_iff.mp h
    unfold D.plains at p
    rw [Bool.and_eq_true] at p
    unfold D.toPDs
    exact .cons (Rep.dp d v' p.1 h2) (Reps.dps ds us p.2 h3)
end
end

/-! ### owned -/
mutual
/-- depth n of d is this frame's own: lists at F, not to be seen in the shared part Hs -/
def Own (S : Sta) (H Hs : Hp) : D → Nat → V → List Addr → Prop
  | .lst ds, n, v, F => (match n with
    | 0 => F = [] ∧ Rep S Hs (.lst ds) v
    | n + 1 => ∃ (a : Addr) (vs : List V) (G : List Addr), v = .ref a ∧ F = a :: G ∧ H a = some (.lst vs) ∧ Owns S H Hs ds n vs G)
  | .non, _, v, F => F = [] ∧ Rep S Hs .non v
  | .bl b, _, v, F => F = [] ∧ Rep S Hs (.bl b) v
  | .int i, _, v, F => F = [] ∧ Rep S Hs (.int i) v
  | .str x, _, v, F => F = [] ∧ Rep S Hs (.str x) v
  | .byt b, _, v, F => F = [] ∧ Rep S Hs (.byt b) v
  | .tup ds, _, v, F => F = [] ∧ Rep S Hs (.tup ds) v
  | .ins c ds, _, v, F => F = [] ∧ Rep S Hs (.ins c ds) v
def Owns (S : Sta) (H Hs : Hp) : List D → Nat → List V → List Addr → Prop
  | [], _, vs, F => vs = [] ∧ F = []
  | d :: ds, n, vs, F => ∃ (v : V) (ws : List V) (F1 F2 : List Addr), vs = v :: ws ∧ F = F1 ++ F2 ∧ Own S H Hs d n v F1 ∧ Owns S H Hs ds n ws F2
end
section
variable {S : Sta} {H H' Hs Hs' : Hp}
theorem Own.zero {d : D} {v : V} {F : List Addr} : Own S H Hs d 0 v F ↔ F = [] ∧ Rep S Hs d v := by
  cases d <;> (unfold Own; exact Iff.rfl)
theorem Own.succ {ds : List D} {n : Nat} {v : V} {F : List Addr} : Own S H Hs (.lst ds) (n + 1) v F ↔ ∃ (a : Addr) (vs : List V) (G : List Addr), v = .ref a ∧ F = a :: G ∧ H a = some (.lst vs) ∧ Owns S H Hs ds n vs G := by
  unfold Own; exact Iff.rfl
def D.isLst : D → Bool
  | .lst _ => true
  | _ => false
theorem Own.other {d : D} {n : Nat} {v : V} {F : List Addr} (h : d.isLst = false) : Own S H Hs d n v F ↔ F = [] ∧ Rep S Hs d v := by
  cases d <;> first | (unfold Own; exact Iff.rfl) | (simp [D.isLst] at h)
theorem Owns.nil {n : Nat} {vs : List V} {F : List Addr} : Owns S H Hs [] n vs F ↔ vs = [] ∧ F = [] := by unfold Owns; exact Iff.rfl
theorem Owns.cons {d : D} {ds : List D} {n : Nat} {vs : List V} {F : List Addr} : Owns S H Hs (d :: ds) n vs F ↔ ∃ (v : V) (ws : List V) (F1 F2 : List Addr), vs = v :: ws ∧ F = F1 ++ F2 ∧ Own S H Hs d n v F1 ∧ Owns S H Hs ds n ws F2 := by first | exact Iff.rfl | rw [Owns.eq_2]
/-- the heap changes outside of F, the shared part grows -/
theorem Own.move (e : Same Hs Hs') : ∀ (d : D) (n : Nat) (v : V) (F : List Addr), (∀ a ∈ F, H' a = H a) → Own S H Hs d n v F → Own S H' Hs' d n v F := by
  intro d
  refine D.rec (motive_1 := fun d => ∀ (n : Nat) (v : V) (F : List Addr), (∀ a ∈ F, H' a = H a) → Own S H Hs d n v F → Own S H' Hs' d n v F)
    (motive_2 := fun ds => ∀ (n : Nat) (vs : List V) (F : List Addr), (∀ a ∈ F, H' a = H a) → Owns S H Hs ds n vs F → Owns S H' Hs' ds n vs F) ?_ ?_ ?_ ?_ ?_ ?_ ?_ ?_ ?_ ?_ d
  · intro n v F _ h; exact (Own.other rfl).mpr ⟨((Own.other rfl).mp h).1, ((Own.other rfl).mp h).2.same e⟩
  · intro b n v F _ h; exact (Own.other rfl).mpr ⟨((Own.other rfl).mp h).1, ((Own.other rfl).mp h).2.same e⟩
  · intro b n v F _ h; exact (Own.other rfl).mpr ⟨((Own.other rfl).mp h).1, ((Own.other rfl).mp h).2.same e⟩
  · intro b n v F _ h; exact (Own.other rfl).mpr ⟨((Own.other rfl).mp h).1, ((Own.other rfl).mp h).2.same e⟩
  · intro b n v F _ h; exact (Own.other rfl).mpr ⟨((Own.other rfl).mp h).1, ((Own.other rfl).mp h).2.same e⟩
  · intro ds ih n v F k h
    cases n with
    | zero => exact Own.zero.mpr ⟨(Own.zero.mp h).1, (Own.zero.mp h).2.same e⟩
    | succ n =>
      obtain ⟨a, vs, G, rfl, rfl, h1, h2⟩ := Own.succ.mp h
      exact Own.succ.mpr ⟨a, vs, G, rfl, rfl, (k a List.mem_cons_self).trans h1, ih n vs G (fun b hb => k b (List.mem_cons_of_mem _ hb)) h2⟩
  · intro ds _ n v F _ h; exact (Own.other rfl).mpr ⟨((Own.other rfl).mp h).1, ((Own.other rfl).mp h).2.same e⟩
  · intro c ds _ n v F _ h; exact (Own.other rfl).mpr ⟨((Own.other rfl).mp h).1, ((Own.other rfl).mp h).2.same e⟩
  · intro n vs F _ h; exact Owns.nil.mpr (Owns.nil.mp h)
  · intro d ds ih1 ih2 n vs F k h
    obtain ⟨v, ws, F1, F2, rfl, rfl, h1, h2⟩ := Owns.cons.mp h
    exact Owns.cons.mpr ⟨v, ws, F1, F2, rfl, rfl, ih1 n v F1 (fun a ha => k a (List.mem_append_left _ ha)) h1, ih2 n ws F2 (fun a ha => k a (List.mem_append_right _ ha)) h2⟩
/-- the owned parts become shared -/
theorem Own.froz (e : Same Hs Hs') : ∀ (d : D) (n : Nat) (v : V) (F : List Addr), (∀ a ∈ F, Hs' a = H a) → Own S H Hs d n v F → Rep S Hs' d v := by
  intro d
  refine D.rec (motive_1 := fun d => ∀ (n : Nat) (v : V) (F : List Addr), (∀ a ∈ F, Hs' a = H a) → Own S H Hs d n v F → Rep S Hs' d v)
    (motive_2 := fun ds => ∀ (n : Nat) (vs : List V) (F : List Addr), (∀ a ∈ F, Hs' a = H a) → Owns S H Hs ds n vs F → Reps S Hs' ds vs) ?_ ?_ ?_ ?_ ?_ ?_ ?_ ?_ ?_ ?_ d
  · intro n v F _ h; exact ((Own.other rfl).mp h).2.same e
  · intro b n v F _ h; exact ((Own.other rfl).mp h).2.same e
  · intro b n v F _ h; exact ((Own.other rfl).mp h).2.same e
  · intro b n v F _ h; exact ((Own.other rfl).mp h).2.same e
  · intro b n v F _ h; exact ((Own.other rfl).mp h).2.same e
  · intro ds ih n v F k h
    cases n with
    | zero => exact (Own.zero.mp h).2.same e
    | succ n =>
      obtain ⟨a, vs, G, rfl, rfl, h1, h2⟩ := Own.succ.mp h
      unfold Rep
      exact ⟨a, vs, rfl, Rd.of ((k a List.mem_cons_self).trans h1), ih n vs G (fun b hb => k b (List.mem_cons_of_mem _ hb)) h2⟩
  · intro ds _ n v F _ h; exact ((Own.other rfl).mp h).2.same e
  · intro c ds _ n v F _ h; exact ((Own.other rfl).mp h).2.same e
  · intro n vs F _ h; exact Reps.nil_iff.mpr (Owns.nil.mp h).1
  · intro d ds ih1 ih2 n vs F k h
    obtain ⟨v, ws, F1, F2, rfl, rfl, h1, h2⟩ := Owns.cons.mp h
    exact Reps.cons_iff.mpr ⟨v, ws, rfl, ih1 n v F1 (fun a ha => k a (List.mem_append_left _ ha)) h1, ih2 n ws F2 (fun a ha => k a (List.mem_append_right _ ha)) h2⟩
/-- what is owned stands in the heap -/
theorem Own.there : ∀ (d : D) (n : Nat) (v : V) (F : List Addr), Own S H Hs d n v F → ∀ a ∈ F, ∃ o, H a = some o := by
  intro d
  refine D.rec (motive_1 := fun d => ∀ (n : Nat) (v : V) (F : List Addr), Own S H Hs d n v F → ∀ a ∈ F, ∃ o, H a = some o)
    (motive_2 := fun ds => ∀ (n : Nat) (vs : List V) (F : List Addr), Owns S H Hs ds n vs F → ∀ a ∈ F, ∃ o, H a = some o) ?_ ?_ ?_ ?_ ?_ ?_ ?_ ?_ ?_ ?_ d
  · intro n v F h a ha; rw [((Own.other rfl).mp h).1] at ha; cases ha
  · intro b n v F h a ha; rw [((Own.other rfl).mp h).1] at ha; cases ha
  · intro b n v F h a ha; rw [((Own.other rfl).mp h).1] at ha; cases ha
  · intro b n v F h a ha; rw [((Own.other rfl).mp h).1] at ha; cases ha
  · intro b n v F h a ha; rw [((Own.other rfl).mp h).1] at ha; cases ha
  · intro ds ih n v F h a ha
    cases n with
    | zero => rw [(Own.zero.mp h).1] at ha; cases ha
    | succ n =>
      obtain ⟨b, vs, G, rfl, rfl, h1, h2⟩ := Own.succ.mp h
      rcases List.mem_cons.mp ha with e | ha
      · rw [e]; exact ⟨_, h1⟩
      · exact ih n vs G h2 a ha
  · intro ds _ n v F h a ha; rw [((Own.other rfl).mp h).1] at ha; cases ha
  · intro c ds _ n v F h a ha; rw [((Own.other rfl).mp h).1] at ha; cases ha
  · intro n vs F h a ha; rw [(Owns.nil.mp h).2] at ha; cases ha
  · intro d ds ih1 ih2 n vs F h a ha
    obtain ⟨v, ws, F1, F2, rfl, rfl, h1, h2⟩ := Owns.cons.mp h
    rcases List.mem_append.mp ha with ha | ha
    · exact ih1 n v F1 h1 a ha
    · exact ih2 n ws F2 h2 a ha
theorem Owns.of_reps : ∀ {ds : List D} {vs : List V}, Reps S Hs ds vs → Owns S H Hs ds 0 vs []
  | [], vs, h => Owns.nil.mpr ⟨Reps.nil_iff.mp h, rfl⟩
  | d :: ds, vs, h => by
    obtain ⟨v, ws, rfl, h1, h2⟩ := Reps.cons_iff.mp h
    exact Owns.cons.mpr ⟨v, ws, [], [], rfl, rfl, Own.zero.mpr ⟨rfl, h1⟩, Owns.of_reps h2⟩
theorem Owns.reps : ∀ {ds : List D} {vs : List V} {F : List Addr}, Owns S H Hs ds 0 vs F → F = [] ∧ Reps S Hs ds vs
  | [], vs, F, h => ⟨(Owns.nil.mp h).2, Reps.nil_iff.mpr (Owns.nil.mp h).1⟩
  | d :: ds, vs, F, h => by
    obtain ⟨v, ws, F1, F2, rfl, rfl, h1, h2⟩ := Owns.cons.mp h
    obtain ⟨e2, r2⟩ := Owns.reps h2
    obtain ⟨e1, r1⟩ := Own.zero.mp h1
    subst e1 e2
    exact ⟨rfl, Reps.cons_iff.mpr ⟨v, ws, rfl, r1, r2⟩⟩
theorem Owns.length : ∀ {ds : List D} {n : Nat} {vs : List V} {F : List Addr}, Owns S H Hs ds n vs F → vs.length = ds.length
  | [], n, vs, F, h => by rw [(Owns.nil.mp h).1] <;> rfl
  | d :: ds, n, vs, F, h => by
    obtain ⟨v, ws, F1, F2, rfl, rfl, h1, h2⟩ := Owns.cons.mp h
    rw [List.length_cons, List.length_cons, Owns.length h2]
theorem Owns.append : ∀ {ds es : List D} {n : Nat} {vs ws : List V} {F G : List Addr}, Owns S H Hs ds n vs F → Owns S H Hs es n ws G → Owns S H Hs (ds ++ es) n (vs ++ ws) (F ++ G)
  | [], es, n, vs, ws, F, G, h, r => by
    obtain ⟨rfl, rfl⟩ := Owns.nil.mp h
    exact r
  | d :: ds, es, n, vs, ws, F, G, h, r => by
    obtain ⟨v, us, F1, F2, rfl, rfl, h1, h2⟩ := Owns.cons.mp h
    exact Owns.cons.mpr ⟨v, us ++ ws, F1, F2 ++ G, rfl, List.append_assoc .., h1, Owns.append h2 r⟩
theorem Owns.one {d : D} {n : Nat} {v : V} {F : List Addr} (h : Own S H Hs d n v F) : Owns S H Hs [d] n [v] F := Owns.cons.mpr ⟨v, [], F, [], rfl, (List.append_nil _).symm, h, Owns.nil.mpr ⟨rfl, rfl⟩⟩
end

/-! ### steps -/
/-- an expression has run: all that stood stands, the shared part has grown by new objects, Fr is new -/
structure Step (H Hs H' Hs' : Hp) (Fr : List Addr) : Prop where
  all : Same H H'
  shr : Same Hs Hs'
  sub : Same Hs' H'
  new : ∀ a, Hs a = none → (∃ o, H a = some o) → Hs' a = none
  fr : ∀ a ∈ Fr, H a = none ∧ Hs' a = none
  nd : Fr.Nodup
/-! ### a frame's slots: entered at H0, of which G0 is shared -/
structure EOk (S : Sta) (H0 G0 H Hs : Hp) (Γ : List Nat) (F : Nat → List Addr) (σ : L2.St) (η : Env) : Prop where
  st : Step H0 G0 H Hs []
  len : σ.length = η.length
  slot : ∀ i d, η[i]? = some (some d) → ∃ v, σ[i]? = some (some v) ∧ Own S H Hs d (Γ.getD i 0) v (F i)
  hid : ∀ i a, a ∈ F i → Hs a = none ∧ H0 a = none ∧ ∃ o, H a = some o
  disj : ∀ i j a, a ∈ F i → a ∈ F j → i = j
  nd : ∀ i, (F i).Nodup
  hot : ∀ i a e, S.hot = some (i, a, e) → σ[i]? = some (some (.ref a))
section
variable {S : Sta} {H0 G0 H H1 H2 Hs Hs1 Hs2 : Hp} {Γ : List Nat} {F : Nat → List Addr} {σ : St} {η : Env} {Fr : List Addr}
theorem Step.refl (h : Same Hs H) : Step H Hs H Hs [] := ⟨Same.refl _, Same.refl _, h, fun _ h _ => h, fun _ h => absurd h List.not_mem_nil, List.nodup_nil⟩
theorem Step.trans (a : Step H Hs H1 Hs1 []) (b : Step H1 Hs1 H2 Hs2 Fr) : Step H Hs H2 Hs2 Fr where
  all := a.all.trans b.all
  shr := a.shr.trans b.shr
  sub := b.sub
  new := fun x h1 ⟨o, h2⟩ => b.new x (a.new x h1 ⟨o, h2⟩) ⟨o, a.all x o h2⟩
  fr := fun x hx => ⟨a.all.free (b.fr x hx).1, (b.fr x hx).2⟩
  nd := b.nd
/-- a new shared object -/
theorem Step.newS {p : Addr} {o : HO} (h : Same Hs H) (hp : H p = none) : Step H Hs (upd H p o) (upd Hs p o) [] where
  all := fun b u e => by rw [upd_ne (ne_of_none e hp)]; exact e
  shr := fun b u e => by rw [upd_ne (ne_of_none (h b u e) hp)]; exact e
  sub := fun b u e => by
    by_cases hb : b = p
    · subst hb; rw [upd_same] at e ⊢; exact e
    · rw [upd_ne hb] at e ⊢; exact h b u e
  new := fun a h1 ⟨u, h2⟩ => by rw [upd_ne (ne_of_none h2 hp)]; exact h1
  fr := fun _ h => absurd h List.not_mem_nil
  nd := List.nodup_nil
/-- a new object of one's own -/
theorem Step.newO {p : Addr} {o : HO} (h : Same Hs H) (hp : H p = none) : Step H Hs (upd H p o) Hs [p] where
  all := fun b u e => by rw [upd_ne (ne_of_none e hp)]; exact e
  shr := Same.refl _
  sub := fun b u e => by rw [upd_ne (ne_of_none (h b u e) hp)]; exact h b u e
  new := fun a h1 _ => h1
  fr := fun a ha => by
    obtain rfl : a = p := by simpa using ha
    exact ⟨hp, h.free hp⟩
  nd := by simp
/-- the new parts are shared -/
theorem Step.froz (a : Step H Hs H1 Hs1 Fr) : ∃ Hs2, Step H Hs H1 Hs2 [] ∧ Same Hs1 Hs2 ∧ ∀ x ∈ Fr, Hs2 x = H1 x := by
  classical
  refine ⟨fun x => if x ∈ Fr then H1 x else Hs1 x, ⟨a.all, fun x o e => ?_, fun x o e => ?_, fun x h1 h2 => ?_, fun _ h => absurd h List.not_mem_nil, List.nodup_nil⟩, fun x o e => ?_, fun x hx => if_pos hx⟩
  · have n : x ∉ Fr := fun hx => by have z := (a.fr x hx).2; rw [a.shr x o e] at z; cases z
    show (if x ∈ Fr then H1 x else Hs1 x) = some o
    rw [if_neg n]; exact a.shr x o e
  · have e' : (if x ∈ Fr then H1 x else Hs1 x) = some o := e
    by_cases hx : x ∈ Fr
    · rw [if_pos hx] at e'; exact e'
    · rw [if_neg hx] at e'; exact a.sub x o e'
  · show (if x ∈ Fr then H1 x else Hs1 x) = none
    have n : x ∉ Fr := fun hx => by
      obtain ⟨o, ho⟩ := h2
      rw [(a.fr x hx).1] at ho; cases ho
    rw [if_neg n]; exact a.new x h1 h2
  · show (if x ∈ Fr then H1 x else Hs1 x) = some o
    have n : x ∉ Fr := fun hx => by rw [(a.fr x hx).2] at e; cases e
    rw [if_neg n]; exact e
theorem Step.drop (a : Step H Hs H1 Hs1 Fr) : Step H Hs H1 Hs1 [] := ⟨a.all, a.shr, a.sub, a.new, fun _ h => absurd h List.not_mem_nil, List.nodup_nil⟩
theorem EOk.sub (ok : EOk S H0 G0 H Hs Γ F σ η) : Same Hs H := ok.st.sub
theorem EOk.step (ok : EOk S H0 G0 H Hs Γ F σ η) (a : Step H Hs H1 Hs1 Fr) : EOk S H0 G0 H1 Hs1 Γ F σ η where
  st := ok.st.trans a.drop
  len := ok.len
  slot := fun i d e => by
    obtain ⟨v, h1, h2⟩ := ok.slot i d e
    refine ⟨v, h1, h2.move a.shr d _ v _ fun x hx => ?_⟩
    obtain ⟨o, ho⟩ := h2.there d _ v _ x hx
    rw [ho, a.all x o ho]
  hid := fun i x hx => by
    obtain ⟨h1, h3, o, h2⟩ := ok.hid i x hx
    exact ⟨a.new x h1 ⟨o, h2⟩, h3, o, a.all x o h2⟩
  disj := ok.disj
  nd := ok.nd
  hot := ok.hot
/-- all slots shared -/
theorem EOk.froz (ok : EOk S H0 G0 H Hs Γ F σ η) (p : Nat → Bool) : ∃ Hs' F', EOk S H0 G0 H Hs' ((List.range Γ.length).map fun i => if p i then Γ.getD i 0 else 0) F' σ η ∧ Same Hs Hs' ∧ (∀ i, p i = true → F' i = F i) := by
  classical
  have hG : ∀ i, ((List.range Γ.length).map fun i => if p i then Γ.getD i 0 else 0).getD i 0 = if p i then Γ.getD i 0 else 0 := fun i => by
    by_cases hi : i < Γ.length
    · simp [List.getD, hi]
    · have e : Γ.getD i 0 = 0 := by simp [List.getD, hi]
      rw [e]
      simp [List.getD, hi]
  refine ⟨fun x => if ∃ i, p i = false ∧ x ∈ F i then H x else Hs x, fun i => if p i then F i else [], ⟨⟨ok.st.all, fun x o e => ?_, fun x o e => ?_, fun x h1 h2 => ?_, fun _ h => absurd h List.not_mem_nil, List.nodup_nil⟩, ok.len, fun i d e => ?_, fun i a ha => ?_, fun i j a ha hb => ?_, fun i => ?_, ok.hot⟩, fun x o e => ?_, fun i hi => by simp [hi]⟩
  · have n : ¬ ∃ i, p i = false ∧ x ∈ F i := fun ⟨i, _, hx⟩ => by
      have y := (ok.hid i x hx).1
      rw [ok.st.shr x o e] at y
      cases y
    show (if ∃ i, p i = false ∧ x ∈ F i then H x else Hs x) = some o
    rw [if_neg n]; exact ok.st.shr x o e
  · have e' : (if ∃ i, p i = false ∧ x ∈ F i then H x else Hs x) = some o := e
    by_cases hx : ∃ i, p i = false ∧ x ∈ F i
    · rw [if_pos hx] at e'; exact e'
    · rw [if_neg hx] at e'; exact ok.st.sub x o e'
  · show (if ∃ i, p i = false ∧ x ∈ F i then H x else Hs x) = none
    have n : ¬ ∃ i, p i = false ∧ x ∈ F i := fun ⟨i, _, hx⟩ => by
      obtain ⟨o, ho⟩ := h2
      rw [(ok.hid i x hx).2.1] at ho; cases ho
    rw [if_neg n]; exact ok.st.new x h1 h2
  · obtain ⟨v, h1, h2⟩ := ok.slot i d e
    have sm : Same Hs (fun x => if ∃ i, p i = false ∧ x ∈ F i then H x else Hs x) := fun x o e => by
      show (if ∃ i, p i = false ∧ x ∈ F i then H x else Hs x) = some o
      have n : ¬ ∃ i, p i = false ∧ x ∈ F i := fun ⟨i, _, hx⟩ => by rw [(ok.hid i x hx).1] at e; cases e
      rw [if_neg n]; exact e
    refine ⟨v, h1, ?_⟩
    rw [hG]
    cases hp : p i with
    | true =>
      simp only [if_true]
      exact h2.move sm d _ v _ fun _ _ => rfl
    | false =>
      simp only [Bool.false_eq_true, if_false]
      exact Own.zero.mpr ⟨rfl, h2.froz sm d _ v _ fun x hx => if_pos ⟨i, hp, hx⟩⟩
  · cases hp : p i with
    | true =>
      simp only [hp, if_true] at ha
      obtain ⟨h1, h2⟩ := ok.hid i a ha
      refine ⟨?_, h2⟩
      show (if ∃ i, p i = false ∧ a ∈ F i then H a else Hs a) = none
      rw [if_neg (fun ⟨j, hj, hx⟩ => by
        have := ok.disj i j a ha hx
        subst this
        rw [hp] at hj; cases hj)]
      exact h1
    | false => simp [hp] at ha
  · cases hp : p i with
    | true =>
      cases hq : p j with
      | true =>
        simp only [hp, hq, if_true] at ha hb
        exact ok.disj i j a ha hb
      | false => simp [hq] at hb
    | false => simp [hp] at ha
  · cases hp : p i with
    | true => simp only [if_true]; exact ok.nd i
    | false => simp
  · show (if ∃ i, p i = false ∧ x ∈ F i then H x else Hs x) = some o
    have n : ¬ ∃ i, p i = false ∧ x ∈ F i := fun ⟨i, _, hx⟩ => by rw [(ok.hid i x hx).1] at e; cases e
    rw [if_neg n]; exact e
end
/-! ### what the error held does not matter to -/
section
variable {K : PySem.W.Frag} {mg : Str → Option Value} {h h' : Option (Nat × Addr × Er)} {H Hs : Hp}
mutual
theorem Rep.cool : ∀ (d : D) (v : V), Rep ⟨K, mg, h⟩ H d v → Rep ⟨K, mg, h'⟩ H d v
  | .non, _, q => q
  | .bl _, _, q => q
  | .int _, _, q => q
  | .str _, _, q => q
  | .byt _, _, q => q
  | .lst ds, v, q => by
    unfold Rep at q ⊢
    obtain ⟨a, vs, h1, h2, h3⟩ := q
    exact ⟨a, vs, h1, h2, Reps.cool ds vs h3⟩
  | .tup ds, v, q => by
    unfold Rep at q ⊢
    obtain ⟨a, vs, h1, h2, h3⟩ := q
    exact ⟨a, vs, h1, h2, Reps.cool ds vs h3⟩
  | .ins c ds, v, q => by
    unfold Rep at q ⊢
    obtain ⟨a, C, dx, fs, h1, h2, h3, h4, h5⟩ := q
    exact ⟨a, C, dx, fs, h1, h2, h3, h4, Reps.cool ds _ h5⟩
theorem Reps.cool : ∀ (ds : List D) (vs : List V), Reps ⟨K, mg, h⟩ H ds vs → Reps ⟨K, mg, h'⟩ H ds vs
  | [], vs, q => q
  | d :: ds, vs, q => by
    unfold Reps at q ⊢
    obtain ⟨v, ws, h1, h2, h3⟩ := q
    exact ⟨v, ws, h1, Rep.cool d v h2, Reps.cool ds ws h3⟩
end
theorem Own.cool (d : D) : ∀ (n : Nat) (v : V) (F : List Addr), Own ⟨K, mg, h⟩ H Hs d n v F → Own ⟨K, mg, h'⟩ H Hs d n v F := by
  refine D.rec (motive_1 := fun d => ∀ (n : Nat) (v : V) (F : List Addr), Own ⟨K, mg, h⟩ H Hs d n v F → Own ⟨K, mg, h'⟩ H Hs d n v F)
    (motive_2 := fun ds => ∀ (n : Nat) (vs : List V) (F : List Addr), Owns ⟨K, mg, h⟩ H Hs ds n vs F → Owns ⟨K, mg, h'⟩ H Hs ds n vs F) ?_ ?_ ?_ ?_ ?_ ?_ ?_ ?_ ?_ ?_ d
  · intro n v F q; exact (Own.other rfl).mpr ⟨((Own.other rfl).mp q).1, ((Own.other rfl).mp q).2.cool⟩
  · intro b n v F q; exact (Own.other rfl).mpr ⟨((Own.other rfl).mp q).1, ((Own.other rfl).mp q).2.cool⟩
  · intro b n v F q; exact (Own.other rfl).mpr ⟨((Own.other rfl).mp q).1, ((Own.other rfl).mp q).2.cool⟩
  · intro b n v F q; exact (Own.other rfl).mpr ⟨((Own.other rfl).mp q).1, ((Own.other rfl).mp q).2.cool⟩
  · intro b n v F q; exact (Own.other rfl).mpr ⟨((Own.other rfl).mp q).1, ((Own.other rfl).mp q).2.cool⟩
  · intro ds ih n v F q
    cases n with
    | zero => exact Own.zero.mpr ⟨(Own.zero.mp q).1, (Own.zero.mp q).2.cool⟩
    | succ n =>
      obtain ⟨a, vs, G, rfl, rfl, h1, h2⟩ := Own.succ.mp q
      exact Own.succ.mpr ⟨a, vs, G, rfl, rfl, h1, ih n vs G h2⟩
  · intro ds _ n v F q; exact (Own.other rfl).mpr ⟨((Own.other rfl).mp q).1, ((Own.other rfl).mp q).2.cool⟩
  · intro c ds _ n v F q; exact (Own.other rfl).mpr ⟨((Own.other rfl).mp q).1, ((Own.other rfl).mp q).2.cool⟩
  · intro n vs F q; exact Owns.nil.mpr (Owns.nil.mp q)
  · intro d ds ih1 ih2 n vs F q
    obtain ⟨v, ws, F1, F2, rfl, rfl, h1, h2⟩ := Owns.cons.mp q
    exact Owns.cons.mpr ⟨v, ws, F1, F2, rfl, rfl, ih1 n v F1 h1, ih2 n ws F2 h2⟩
end
end VL
/-! VLExpr: readings that say what the tree functions give; one rule a construct of an expression. -/
namespace VL
open PySem PySem.Spec L2
abbrev sta (X : Cx) (h : Option (Nat × Addr × Er)) : Sta := ⟨X.K, X.mg, h⟩
/-- the class of such an error, no dict of its own -/
def clsIs (S : Sta) (e : Er) (cls : Value) (d : Option Addr) : Prop := d = none ∧ ∃ C : Addr, cls = .ref C ∧ S.mg e.name = some (.ref C)
def Post {α : Type} (S : Sta) (W : WX) (σ : L2.St) (H : Hp) (r : Res α) (k : α → Prop) : Prop := match r with
  | .ok a => k a
  | .exc e => ∀ (cls : Value) (d : Option Addr) (H' : Hp), clsIs S e cls d → Same H H' → W cls d σ H'
  | .stuck => False
def tE (S : Sta) (W : WX) (Γ : List Nat) (m : M D) (n : Nat) : TE := fun σ H Q => ∃ (H0 G0 Hs : Hp) (F : Nat → List Addr) (η : Env), EOk S H0 G0 H Hs Γ F σ η ∧
  Post S W σ H (m η) fun d => ∀ (v : V) (H' Hs' : Hp) (Fr : List Addr), Step H Hs H' Hs' Fr → Own S H' Hs' d n v Fr → Q v H'
def tA (S : Sta) (W : WX) (Γ : List Nat) (m : M (List D)) : TA := fun σ H Q => ∃ (H0 G0 Hs : Hp) (F : Nat → List Addr) (η : Env), EOk S H0 G0 H Hs Γ F σ η ∧
  Post S W σ H (m η) fun ds => ∀ (vs : List V) (H' Hs' : Hp), Step H Hs H' Hs' [] → Reps S Hs' ds vs → Q vs H'
def tQ (S : Sta) (W : WX) (Γ : List Nat) (m : M Bool) : TT := fun σ H Q => ∃ (H0 G0 Hs : Hp) (F : Nat → List Addr) (η : Env), EOk S H0 G0 H Hs Γ F σ η ∧
  Post S W σ H (m η) fun b => ∀ (H' Hs' : Hp), Step H Hs H' Hs' [] → Q b H'
def tP (S : Sta) (W : WX) (Γ : List Nat) (m : M (Option Int)) : TO := fun σ H Q => ∃ (H0 G0 Hs : Hp) (F : Nat → List Addr) (η : Env), EOk S H0 G0 H Hs Γ F σ η ∧
  Post S W σ H (m η) fun o => ∀ (H' Hs' : Hp), Step H Hs H' Hs' [] → Q o H'
section
variable {S : Sta} {W : WX} {σ : L2.St} {H H1 H0 G0 Hs : Hp} {Γ : List Nat} {F : Nat → List Addr} {η : Env} {α β : Type}
theorem Post.bind {r : Res α} {f : α → Res β} {k : β → Prop} (h : Post S W σ H (r.bind f) k) : Post S W σ H r fun a => Post S W σ H (f a) k := by
  cases r with
  | ok a => exact h
  | exc e => exact h
  | stuck => exact h
theorem Post.imp {r : Res α} {k k' : α → Prop} (h : Post S W σ H r k) (i : ∀ a, k a → k' a) : Post S W σ H r k' := by
  cases r with
  | ok a => exact i a h
  | exc e => exact h
  | stuck => exact h
theorem Post.up {r : Res α} {k : α → Prop} (h : Post S W σ H r k) (s : Same H H1) : Post S W σ H1 r k := by
  cases r with
  | ok a => exact h
  | exc e => exact fun cls d H' c s' => h cls d H' c (s.trans s')
  | stuck => exact h
theorem Own.shared {H' Hs' : Hp} {d : D} {n : Nat} {v : V} {Fr : List Addr} (st : Step H Hs H' Hs' Fr) (h : Own S H' Hs' d n v Fr) : ∃ Hs2, Step H Hs H' Hs2 [] ∧ Rep S Hs2 d v := by
  obtain ⟨Hs2, h1, h2, h3⟩ := st.froz
  exact ⟨Hs2, h1, h.froz h2 d n v Fr h3⟩
theorem Rep.own {H' : Hp} {d : D} {v : V} (h : Rep S Hs d v) : Own S H' Hs d 0 v [] := Own.zero.mpr ⟨rfl, h⟩
theorem Own.scal {H' : Hp} {d : D} {n : Nat} {v : V} (hd : d.isLst = false) (h : Rep S Hs d v) : Own S H' Hs d n v [] := (Own.other hd).mpr ⟨rfl, h⟩
/-- an expression's reading is used: its value, shared -/
theorem tE.use {m : M D} {n : Nat} {Q : VK} (ok : EOk S H0 G0 H Hs Γ F σ η) (p : Post S W σ H (m η) fun d => ∀ (v : V) (H' Hs' : Hp), Step H Hs H' Hs' [] → Rep S Hs' d v → EOk S H0 G0 H' Hs' Γ F σ η → Q v H') : tE S W Γ m n σ H Q :=
  ⟨H0, G0, Hs, F, η, ok, p.imp fun d k v H' Hs' Fr st o => by
    obtain ⟨Hs2, st2, r⟩ := Own.shared st o
    exact k v H' Hs2 st2 r (ok.step st2)⟩
theorem tA.use {m : M (List D)} {Q : List V → Hp → Prop} (ok : EOk S H0 G0 H Hs Γ F σ η) (p : Post S W σ H (m η) fun ds => ∀ (vs : List V) (H' Hs' : Hp), Step H Hs H' Hs' [] → Reps S Hs' ds vs → EOk S H0 G0 H' Hs' Γ F σ η → Q vs H') : tA S W Γ m σ H Q :=
  ⟨H0, G0, Hs, F, η, ok, p.imp fun ds k vs H' Hs' st r => k vs H' Hs' st r (ok.step st)⟩
theorem tQ.use {m : M Bool} {Q : Bool → Hp → Prop} (ok : EOk S H0 G0 H Hs Γ F σ η) (p : Post S W σ H (m η) fun b => ∀ (H' Hs' : Hp), Step H Hs H' Hs' [] → EOk S H0 G0 H' Hs' Γ F σ η → Q b H') : tQ S W Γ m σ H Q :=
  ⟨H0, G0, Hs, F, η, ok, p.imp fun b k H' Hs' st => k H' Hs' st (ok.step st)⟩
theorem tP.use {m : M (Option Int)} {Q : Option Int → Hp → Prop} (ok : EOk S H0 G0 H Hs Γ F σ η) (p : Post S W σ H (m η) fun o => ∀ (H' Hs' : Hp), Step H Hs H' Hs' [] → EOk S H0 G0 H' Hs' Γ F σ η → Q o H') : tP S W Γ m σ H Q :=
  ⟨H0, G0, Hs, F, η, ok, p.imp fun b k H' Hs' st => k H' Hs' st (ok.step st)⟩
end
/-! ### consequence -/
theorem impE {X : Cx} {e : Expr} {t t' : TE} (h : PE X e t) (i : ∀ σ H Q, t' σ H Q → t σ H Q) : PE X e t' := ⟨fun pins s σ H Q I w => h.run pins s σ H Q I (i σ H Q w)⟩
theorem impT {X : Cx} {e : Expr} {t t' : TT} (h : PT X e t) (i : ∀ σ H Q, t' σ H Q → t σ H Q) : PT X e t' := ⟨fun pins s σ H Q I w => h.run pins s σ H Q I (i σ H Q w)⟩
theorem impW {X : Cx} {e : Expr} {t t' : TT} (h : PW X e t) (i : ∀ σ H Q, t' σ H Q → t σ H Q) : PW X e t' := ⟨fun whole pins s σ H Q I w => h.run whole pins s σ H Q I (i σ H Q w)⟩
theorem impA {X : Cx} {es : List Expr} {t t' : TA} (h : PA X es t) (i : ∀ σ H Q, t' σ H Q → t σ H Q) : PA X es t' := ⟨fun pos pins s σ H Q I w => h.run pos pins s σ H Q I (i σ H Q w)⟩
theorem impO {X : Cx} {e : Option Expr} {t t' : TO} (h : PO X e t) (i : ∀ σ H Q, t' σ H Q → t σ H Q) : PO X e t' := ⟨fun pins s σ H Q I w => h.run pins s σ H Q I (i σ H Q w)⟩
theorem impS {X : Cx} {st : Stmt} {t t' : TS} (h : PS X st t) (i : ∀ D σ H, t' D σ H → t D σ H) : PS X st t' := ⟨fun pins s σ H D I w => h.run pins s σ H D I (i D σ H w)⟩
theorem impSs {X : Cx} {st : List Stmt} {t t' : TS} (h : PSs X st t) (i : ∀ D σ H, t' D σ H → t D σ H) : PSs X st t' := ⟨fun pins s σ H D I w => h.run pins s σ H D I (i D σ H w)⟩

/-! ### operators by values -/
/-- the operator r does what f says -/
def OpD (S : Sta) (r : R2) (f : D → D → Res D) (n : Nat) : Prop := ∀ (W : WX) (σ : L2.St) (H Hs : Hp) (a b : D) (x y : V) (Q : VK), Same Hs H → Rep S Hs a x → Rep S Hs b y →
  Post S W σ H (f a b) (fun d => ∀ (v : V) (H' Hs' : Hp) (Fr : List Addr), Step H Hs H' Hs' Fr → Own S H' Hs' d n v Fr → Q v H') → r x y H Q
def UnD (S : Sta) (r : V → Hp → VK → Prop) (f : D → Res D) (n : Nat) : Prop := ∀ (W : WX) (σ : L2.St) (H Hs : Hp) (a : D) (x : V) (Q : VK), Same Hs H → Rep S Hs a x →
  Post S W σ H (f a) (fun d => ∀ (v : V) (H' Hs' : Hp) (Fr : List Addr), Step H Hs H' Hs' Fr → Own S H' Hs' d n v Fr → Q v H') → r x H Q
def CallD (S : Sta) (r : List V → Hp → VK → Prop) (f : List D → Res D) (n : Nat) : Prop := ∀ (W : WX) (σ : L2.St) (H Hs : Hp) (as : List D) (xs : List V) (Q : VK), Same Hs H → Reps S Hs as xs →
  Post S W σ H (f as) (fun d => ∀ (v : V) (H' Hs' : Hp) (Fr : List Addr), Step H Hs H' Hs' Fr → Own S H' Hs' d n v Fr → Q v H') → r xs H Q
section
variable {X : Cx} {W : WX} {Γ : List Nat} {h : Option (Nat × Addr × Er)} {a b c e : Expr} {ma mb mc : M D} {na nb nc n : Nat} {pos : Pos}
theorem rep_int {S : Sta} {H : Hp} {i : Int} : Rep S H (.int i) (.int i) := by unfold Rep; rfl
theorem rep_bl {S : Sta} {H : Hp} {i : Bool} : Rep S H (.bl i) (.bl i) := by unfold Rep; rfl
theorem e_var (i : Nat) {x : Str} (hN : X.N[i]? = some x := by rfl) (hg : Γ.getD i 0 = 0 := by rfl) (hv : Vis X.env.scope x := by first | exact Or.inl rfl | exact Or.inr (Or.inl rfl) | exact Or.inr (Or.inr rfl)) (hd : (x == ("__debug__" : Str)) = false := by decide)
    (hcd : (x == ("__classdict__" : Str)) = false := by decide) : PE X (.Name x pos) (tE (sta X h) W Γ (dVar i) 0) := impE (pe_var hN hv hd hcd) fun σ H Q w => by
  obtain ⟨H0, G0, Hs, F, η, ok, p⟩ := w
  unfold dVar at p
  split at p
  · rename_i d hd
    obtain ⟨v, h1, h2⟩ := ok.slot i d hd
    rw [hg] at h2
    obtain ⟨e1, h3⟩ := Own.zero.mp h2
    exact ⟨v, h1, p v H Hs [] (Step.refl ok.sub) h3.own⟩
  · exact p.elim
/-- a slot that is moved out (return) is not read so -/
theorem e_lit {d : D} {v : V} (hp : PE X e (tC v)) (hs : d.isLst = false) (hr : ∀ (S : Sta) (H : Hp), Rep S H d v) : PE X e (tE (sta X h) W Γ (dLit d) n) := impE hp fun σ H Q w => by
  obtain ⟨H0, G0, Hs, F, η, ok, p⟩ := w
  exact p v H Hs [] (Step.refl ok.sub) (Own.scal hs (hr _ _))
theorem e_int {i : Int} {j} : PE X (.Constant (.int i) j pos) (tE (sta X h) W Γ (dLit (.int i)) n) := e_lit pe_int rfl fun _ _ => by unfold Rep; rfl
theorem e_bl {i : Bool} {j} : PE X (.Constant (.bool i) j pos) (tE (sta X h) W Γ (dLit (.bl i)) n) := e_lit pe_bl rfl fun _ _ => by unfold Rep; rfl
theorem e_non {j} : PE X (.Constant .none j pos) (tE (sta X h) W Γ (dLit .non) n) := e_lit pe_non rfl fun _ _ => by unfold Rep; rfl
theorem e_str {x : Str} {j} : PE X (.Constant (.str x) j pos) (tE (sta X h) W Γ (dLit (.str x)) n) := e_lit pe_str rfl fun _ _ => by unfold Rep; rfl
theorem op2_of {r : R2} {f : D → D → Res D} {S : Sta} {σ : L2.St} {H : Hp} {Q : VK} (hf : OpD S r f n) (w : tE S W Γ (dOp2 f ma mb) n σ H Q) : tOp r (tE S W Γ ma na) (tE S W Γ mb nb) σ H Q := by
  obtain ⟨H0, G0, Hs, F, η, ok, p⟩ := w
  refine tE.use ok ((Post.bind p).imp fun x px v H1 Hs1 st1 r1 ok1 => ?_)
  refine tE.use ok1 (((Post.bind px).up st1.all).imp fun y py u H2 Hs2 st2 r2 ok2 => ?_)
  exact hf W σ H2 Hs2 x y v u Q ok2.sub (r1.same st2.shr) r2 ((py.up (st1.all.trans st2.all)).imp fun d k v' H' Hs' Fr st o => k v' H' Hs' Fr ((st1.trans st2).trans st) o)
theorem e_op2 {op : Operator} {r : R2} {f : D → D → Res D} (ho : OpR X (binaryOp op) r) (hf : OpD (sta X h) r f n) (ha : PE X a (tE (sta X h) W Γ ma na)) (hb : PE X b (tE (sta X h) W Γ mb nb)) :
    PE X (.BinOp a op b pos) (tE (sta X h) W Γ (dOp2 f ma mb) n) := impE (pe_op ho ha hb) fun σ H Q w => op2_of hf w
theorem un_of {r : V → Hp → VK → Prop} {f : D → Res D} {S : Sta} {σ : L2.St} {H : Hp} {Q : VK} (hf : UnD S r f n) (w : tE S W Γ (dOp1 f ma) n σ H Q) : tUn r (tE S W Γ ma na) σ H Q := by
  obtain ⟨H0, G0, Hs, F, η, ok, p⟩ := w
  refine tE.use ok ((Post.bind p).imp fun x px v H1 Hs1 st1 r1 ok1 => ?_)
  exact hf W σ H1 Hs1 x v Q ok1.sub r1 ((px.up st1.all).imp fun d k v' H' Hs' Fr st o => k v' H' Hs' Fr (st1.trans st) o)
theorem e_un {op : UnaryOp} {r : V → Hp → VK → Prop} {f : D → Res D} (ho : UnR X (unaryOp op) r) (hf : UnD (sta X h) r f n) (ha : PE X a (tE (sta X h) W Γ ma na)) : PE X (.UnaryOp op a pos) (tE (sta X h) W Γ (dOp1 f ma) n) := impE (pe_un ho ha) fun σ H Q w => un_of hf w
/-! ints -/
theorem opd_I0 {S : Sta} {g : Int → Int → Int} {f : D → D → Res D} (hf : ∀ a b, (∃ i j, a = .int i ∧ b = .int j ∧ f a b = .ok (.int (g i j))) ∨ f a b = .stuck) : OpD S (rI0 fun i j => .int (g i j)) f n := by
  intro W σ H Hs a b x y Q sub ra rb p
  rcases hf a b with ⟨i, j, rfl, rfl, e⟩ | e
  · unfold Rep at ra rb
    rw [e] at p
    exact ⟨i, j, ra, rb, p _ H Hs [] (Step.refl sub) (Own.scal rfl rep_int)⟩
  · rw [e] at p; exact p.elim
theorem opd_B0 {S : Sta} {g : Int → Int → Bool} : OpD S (rI0 fun i j => .bl (g i j)) (cmpI g) n := by
  intro W σ H Hs a b x y Q sub ra rb p
  unfold cmpI at p
  split at p
  · unfold Rep at ra rb
    exact ⟨_, _, ra, rb, p _ H Hs [] (Step.refl sub) (Own.scal rfl rep_bl)⟩
  · exact p.elim
theorem opd_I {S : Sta} {C : Int → Int → Prop} {g : Int → Int → Int} {f : D → D → Res D} (hf : ∀ a b, (∃ i j, a = .int i ∧ b = .int j ∧ C i j ∧ f a b = .ok (.int (g i j))) ∨ f a b = .stuck) : OpD S (rI C fun i j => .int (g i j)) f n := by
  intro W σ H Hs a b x y Q sub ra rb p
  rcases hf a b with ⟨i, j, rfl, rfl, c, e⟩ | e
  · unfold Rep at ra rb
    rw [e] at p
    exact ⟨i, j, ra, rb, c, p _ H Hs [] (Step.refl sub) (Own.scal rfl rep_int)⟩
  · rw [e] at p; exact p.elim
theorem OpD.or {S : Sta} {r r' : R2} {f : D → D → Res D} {p : D → D → Bool} (h1 : ∀ W σ H Hs a b x y Q, p a b = true → Same Hs H → Rep S Hs a x → Rep S Hs b y → Post S W σ H (f a b) (fun d => ∀ (v : V) (H' Hs' : Hp) (Fr : List Addr), Step H Hs H' Hs' Fr → Own S H' Hs' d n v Fr → Q v H') → r x y H Q)
    (h2 : ∀ W σ H Hs a b x y Q, p a b = false → Same Hs H → Rep S Hs a x → Rep S Hs b y → Post S W σ H (f a b) (fun d => ∀ (v : V) (H' Hs' : Hp) (Fr : List Addr), Step H Hs H' Hs' Fr → Own S H' Hs' d n v Fr → Q v H') → r' x y H Q) : OpD S (fun x y H Q => r x y H Q ∨ r' x y H Q) f n := by
  intro W σ H Hs a b x y Q sub ra rb q
  cases hp : p a b with
  | true => exact .inl (h1 W σ H Hs a b x y Q hp sub ra rb q)
  | false => exact .inr (h2 W σ H Hs a b x y Q hp sub ra rb q)
/-! lists -/
def rCatS : R2 := fun x y H Q => ∃ l b xs zs, x = .ref l ∧ y = .ref b ∧ Rd H l (.lst xs) ∧ Rd H b (.lst zs) ∧ xs.length + zs.length ≤ sizeLine ∧ ∀ p, H p = none → Q (.ref p) (upd H p (.lst (xs ++ zs)))
theorem lstR {pins : List (Addr × Obj)} {σ : L2.St} {H : Hp} {s : Shared} {l : Addr} {xs : List V} (I : Inv X pins σ H s) (hH : Rd H l (.lst xs)) : xs.length ≤ sizeLine ∧ ∃ (its : List Value) (n : Nat), Vals xs its ∧ xs.length = its.length ∧ s.heap.get? l = some { cls := .type "list", data := .seq its.toArray n } := by
  obtain ⟨z, its, n, r, e⟩ := hH.ok I.hok
  exact ⟨z, its, n, r, r.length, e⟩
theorem op_catS : OpR X (binaryOp .Add) rCatS := by
  intro pins s σ H x y v u Q I rx ry h
  obtain ⟨l, b, xs, zs, rfl, rfl, hH, hB, hz, q⟩ := h
  cases rx
  cases ry
  obtain ⟨z, its, n, r, hl, e⟩ := lstR I hH
  obtain ⟨z2, its2, n2, r2, hl2, e2⟩ := lstR I hB
  refine PySem.P.add_list e e2 ?_ (by rw [List.size_toArray, List.size_toArray]; omega)
  have ea : its.toArray ++ its2.toArray = (its ++ its2).toArray := by simp
  rw [ea]
  exact ⟨.ref _, _, I.lnew (t' := s.toks) (r.append r2) (by rw [List.length_append]; omega), rfl, q _ I.fresh⟩
def rRepS : R2 := fun x y H Q => ∃ l k xs, x = .ref l ∧ y = .int k ∧ Rd H l (.lst xs) ∧ -(2 ^ 63) ≤ k ∧ k < 2 ^ 63 ∧ xs.length * k.toNat ≤ sizeLine ∧
  ∀ p, H p = none → Q (.ref p) (upd H p (.lst (List.replicate k.toNat xs).flatten))
theorem op_repS : OpR X (binaryOp .Mult) rRepS := by
  intro pins s σ H x y v u Q I rx ry h
  obtain ⟨l, k, xs, rfl, rfl, hH, h1, h2, hz, q⟩ := h
  cases rx
  obtain ⟨t, rfl⟩ := ry
  obtain ⟨z, its, n, r, hl, e⟩ := lstR I hH
  have hlen : its.toArray.size * k.toNat ≤ sizeLine := by rw [List.size_toArray, ← hl]; exact hz
  have hcap : ¬ its.toArray.size * k.toNat > (2 ^ 63 - 1) / 8 := by
    have : (sizeLine : Nat) ≤ (2 ^ 63 - 1) / 8 := by decide
    omega
  have hfit : ¬ (!Builtin.List.listFitsIndex k) = true := by
    rw [fitsIndex_both h1 h2]
    exact Bool.false_ne_true
  have hlong : ¬ Builtin.List.listTooLong (its.toArray.size * k.toNat) = true := by
    rw [notLongL hlen]
    exact Bool.false_ne_true
  have hnew : List.foldl (fun x1 x2 => x1 ++ x2) #[] (List.replicate (if its.toArray.isEmpty = true then 0 else k.toNat) its.toArray) = (List.replicate k.toNat its).flatten.toArray := by
    have f0 : ∀ m : Nat, List.foldl (fun x1 x2 => x1 ++ x2) #[] (List.replicate m its.toArray) = (List.replicate m its).flatten.toArray := fun m => by
      have := foldl_rep its m []
      rw [List.nil_append] at this
      exact this
    rw [f0]
    cases its with
    | nil => simp
    | cons a r' => rw [if_neg (by simp)]
  refine wpAny_binaryOp_repeat_ref (T := "list") (U := "int") (by decide) ⟨_, e, rfl⟩ (fun s' => typeIs_int s' k t) noFill_list_mul PySem.F.fills_int_mul PySem.F.slot_int_rmul repeat_list PySem.F.slot_int_index.lookup
    (call_meets PySem.F.slot_int_rmul (typeIs_int s k t) PySem.F.entry_int_rmul (PySem.F.args_int_rmul_2 _ _) (int___rmul___int_list k t l its.toArray n)
      ⟨e, rfl, ⟨_, e, rfl⟩, call_meets PySem.F.slot_list_mul ⟨_, e, rfl⟩ PySem.F.entry_list_mul (PySem.F.args_list_mul_2 _ _) (AutoListH.list___mul___list_int_3 l its.toArray n k t hfit hcap hlong) ⟨e, ?_⟩⟩)
  rw [hnew]
  exact ⟨.ref _, _, I.lnew (t' := s.toks) (r.rep k.toNat) (by rw [PyProof.Rows.lm_len_rep_flat, Nat.mul_comm]; exact hz), rfl, q _ I.fresh⟩
theorem line_eq : line = sizeLine := by rw [sizeLine_eq]; rfl
/-- a new list of shared items -/
theorem own_new {S : Sta} {H Hs : Hp} {p : Addr} {ds : List D} {vs : List V} (hp : H p = none) (r : Reps S Hs ds vs) : Own S (upd H p (.lst vs)) Hs (.lst ds) 1 (.ref p) [p] :=
  Own.succ.mpr ⟨p, vs, [], rfl, rfl, upd_same, Owns.of_reps r⟩
theorem rep_newT {S : Sta} {H Hs : Hp} {p : Addr} {ds : List D} {vs : List V} (sub : Same Hs H) (hp : H p = none) (r : Reps S Hs ds vs) : Rep S (upd Hs p (.tup vs)) (.tup ds) (.ref p) := by
  unfold Rep
  refine ⟨p, vs, rfl, SqT.of upd_same, r.same fun b u e => ?_⟩
  rw [upd_ne (ne_of_none (sub b u e) hp)]; exact e
def rAddD (K : PySem.W.Frag) : R2 := fun x y H Q => (rI0 fun i j => .int (i + j)) x y H Q ∨ (rCatS x y H Q ∨ rCatT K x y H Q)
theorem op_addD : OpR X (binaryOp .Add) (rAddD X.K) := op_add.or (op_catS.or op_catT)
theorem od_add : OpD (sta X h) (rAddD X.K) opAdd 1 := by
  intro W σ H Hs a b x y Q sub ra rb p
  unfold opAdd at p
  split at p
  · unfold Rep at ra rb
    exact .inl ⟨_, _, ra, rb, p _ H Hs [] (Step.refl sub) (Own.scal rfl rep_int)⟩
  · rename_i xs ys
    split at p
    · rename_i hl
      unfold Rep at ra rb
      obtain ⟨l, vs, rfl, h1, h2⟩ := ra
      obtain ⟨l2, ws, rfl, h3, h4⟩ := rb
      refine .inr (.inl ⟨l, l2, vs, ws, rfl, rfl, ?_, ?_, by rw [h2.length, h4.length, ← line_eq]; exact hl, fun q hq => p _ _ _ _ (Step.newO sub hq) (own_new hq (h2.append h4))⟩)
      · rcases h1 with e | ⟨o, e⟩
        · exact .inl (sub _ _ e)
        · exact .inr ⟨o, sub _ _ e⟩
      · rcases h3 with e | ⟨o, e⟩
        · exact .inl (sub _ _ e)
        · exact .inr ⟨o, sub _ _ e⟩
    · exact p.elim
  · rename_i xs ys
    split at p
    · rename_i hl
      unfold Rep at ra rb
      obtain ⟨l, vs, rfl, h1, h2⟩ := ra
      obtain ⟨l2, ws, rfl, h3, h4⟩ := rb
      have sqt : ∀ {a : Addr} {us : List V}, SqT X.K Hs a us → SqT X.K H a us := fun hh => by
        rcases hh with (e | ⟨o, e⟩) | e
        · exact .inl (.inl (sub _ _ e))
        · exact .inl (.inr ⟨o, sub _ _ e⟩)
        · exact .inr e
      refine .inr (.inr ⟨l, l2, vs, ws, rfl, rfl, sqt h1, sqt h3, fun e => ?_, by rw [h2.length, h4.length, ← line_eq]; exact hl.2, fun hw => ?_, fun hw q hq => ?_⟩)
      · have z := h2.length
        rw [e] at z
        exact hl.1 (List.length_eq_zero_iff.mp z.symm)
      · have z := h4.length
        rw [hw] at z
        have z' : ys = [] := List.length_eq_zero_iff.mp z.symm
        subst z'
        rw [List.append_nil] at p
        refine p _ H Hs [] (Step.refl sub) (Own.scal rfl ?_)
        unfold Rep
        exact ⟨l, vs, rfl, h1, h2⟩
      · exact p _ _ _ _ (Step.newS sub hq) (Own.scal rfl (rep_newT sub hq (h2.append h4)))
    · exact p.elim
  · exact p.elim
theorem od_sub {S : Sta} : OpD S (rI0 fun i j => .int (i - j)) opSub n := opd_I0 fun a b => by
  cases a <;> cases b <;> first | exact .inl ⟨_, _, rfl, rfl, rfl⟩ | exact .inr rfl
theorem mulOk_x {i j : Int} (q : mulOk i j = true) : CMulX i j := by
  have z := of_decide_eq_true q
  have b : ∀ x : Int, Builtin.Int.intBits x ≤ x.natAbs.log2 + 1 := fun x => by
    unfold Builtin.Int.intBits
    split <;> omega
  have h1 := b i
  have h2 := b j
  unfold CMulX
  omega
def rMulD : R2 := fun x y H Q => (rI CMulX fun i j => .int (i * j)) x y H Q ∨ rRepS x y H Q
theorem op_mulD : OpR X (binaryOp .Mult) rMulD := op_mulX.or op_repS
theorem rd_sub {H Hs : Hp} {a : Addr} {u : HO} (sub : Same Hs H) (r : Rd Hs a u) : Rd H a u := by
  rcases r with e | ⟨o, e⟩
  · exact .inl (sub _ _ e)
  · exact .inr ⟨o, sub _ _ e⟩
theorem sqt_sub {K : PySem.W.Frag} {H Hs : Hp} {a : Addr} {us : List V} (sub : Same Hs H) (hh : SqT K Hs a us) : SqT K H a us := by
  rcases hh with (e | ⟨o, e⟩) | e
  · exact .inl (.inl (sub _ _ e))
  · exact .inl (.inr ⟨o, sub _ _ e⟩)
  · exact .inr e
theorem od_mul {S : Sta} : OpD S rMulD opMul 1 := by
  intro W σ H Hs a b x y Q sub ra rb p
  unfold opMul at p
  split at p
  · split at p
    · rename_i hm
      unfold Rep at ra rb
      exact .inl ⟨_, _, ra, rb, mulOk_x hm, p _ H Hs [] (Step.refl sub) (Own.scal rfl rep_int)⟩
    · exact p.elim
  · split at p
    · rename_i hl
      unfold Rep at ra rb
      obtain ⟨l, vs, rfl, h1, h2⟩ := ra
      obtain ⟨l1, l2, l3⟩ := hl
      refine .inr ⟨l, _, vs, rfl, rb, rd_sub sub h1, by omega, by omega, by rw [h2.length, ← line_eq]; exact l3, fun q hq => p _ _ _ _ (Step.newO sub hq) (own_new hq (h2.rep _))⟩
    · exact p.elim
  · exact p.elim
def CDivL (i j : Int) : Prop := divOk i j = true
theorem op_fdivL : OpR X (binaryOp .FloorDiv) (rI CDivL fun i j => .int (i / j)) := opI fun i j _ _ _ _ _ hc q => by
  have hc' : (decide (0 < j) && (decide (j.natAbs.log2 < 9000) || decide (i.natAbs.log2 ≤ j.natAbs.log2 + 4000))) = true := hc
  simp only [Bool.and_eq_true, Bool.or_eq_true, decide_eq_true_eq] at hc'
  obtain ⟨h1, h2⟩ := hc'
  refine PyProof.Rows.floordiv_int (by omega) (by rw [Int.fdiv_eq_ediv_of_nonneg i (by omega)]; exact q) (.inl ?_)
  rcases h2 with h2 | h2
  · exact PyProof.noPylong_of_log2 h2
  · have hj : (j == 0) = false := by simpa using (show j ≠ 0 by omega)
    show (decide ((if j == 0 then 0 else j.natAbs.log2 / 30 + 1) > 300) && decide ((if i == 0 then 0 else i.natAbs.log2 / 30 + 1) > (if j == 0 then 0 else j.natAbs.log2 / 30 + 1) + 150)) = false
    rw [hj]
    have k : ¬ ((if i == 0 then 0 else i.natAbs.log2 / 30 + 1) > (if false = true then 0 else j.natAbs.log2 / 30 + 1) + 150) := by
      rw [if_neg Bool.false_ne_true]
      split <;> omega
    rw [decide_eq_false k, Bool.and_false]
theorem od_div {S : Sta} : OpD S (rI CDivL fun i j => .int (i / j)) opDiv n := opd_I fun a b => by
  cases a <;> cases b <;> first | exact .inr rfl | skip
  rename_i i j
  by_cases e : divOk i j = true
  · exact .inl ⟨_, _, rfl, rfl, e, by unfold opDiv; exact if_pos e⟩
  · exact .inr (by unfold opDiv; exact if_neg e)
theorem od_mod {S : Sta} : OpD S (rI (fun _ j => 0 < j) fun i j => .int (i % j)) opMod n := opd_I fun a b => by
  cases a <;> cases b <;> first | exact .inr rfl | skip
  rename_i i j
  by_cases e : 0 < j
  · exact .inl ⟨_, _, rfl, rfl, e, by unfold opMod; exact if_pos e⟩
  · exact .inr (by unfold opMod; exact if_neg e)
theorem od_pow {S : Sta} : OpD S (rI CPow fun i j => .int (i ^ j.toNat)) opPow n := opd_I fun a b => by
  cases a <;> cases b <;> first | exact .inr rfl | skip
  rename_i i j
  by_cases e : powOk i j = true
  · refine .inl ⟨_, _, rfl, rfl, ?_, by unfold opPow; exact if_pos e⟩
    unfold powOk at e
    simp only [Bool.and_eq_true, decide_eq_true_eq] at e
    exact e
  · exact .inr (by unfold opPow; exact if_neg e)
theorem od_shl {S : Sta} : OpD S (rI CShl fun i j => .int (i * 2 ^ j.toNat)) opShl n := opd_I fun a b => by
  cases a <;> cases b <;> first | exact .inr rfl | skip
  rename_i i j
  by_cases e : shlOk i j = true
  · refine .inl ⟨_, _, rfl, rfl, ?_, by unfold opShl; exact if_pos e⟩
    unfold shlOk at e
    simp only [Bool.and_eq_true, decide_eq_true_eq] at e
    have b : Builtin.Int.intBits i ≤ i.natAbs.log2 + 1 := by
      unfold Builtin.Int.intBits
      split <;> omega
    have e2 : (2 : Int) ^ 27 = 134217728 := by decide
    exact ⟨e.1, by rw [e2]; omega⟩
  · exact .inr (by unfold opShl; exact if_neg e)
theorem od_shr {S : Sta} : OpD S (rI (fun _ j => 0 ≤ j) fun i j => .int (i / 2 ^ j.toNat)) opShr n := opd_I fun a b => by
  cases a <;> cases b <;> first | exact .inr rfl | skip
  rename_i i j
  by_cases e : 0 ≤ j
  · exact .inl ⟨_, _, rfl, rfl, e, by unfold opShr; exact if_pos e⟩
  · exact .inr (by unfold opShr; exact if_neg e)
theorem od_and {S : Sta} : OpD S (rI0 fun i j => .int (Builtin.bitAnd i j)) opAnd n := opd_I0 fun a b => by
  cases a <;> cases b <;> first | exact .inl ⟨_, _, rfl, rfl, rfl⟩ | exact .inr rfl
theorem od_or {S : Sta} : OpD S (rI0 fun i j => .int (Builtin.bitOr i j)) opOr n := opd_I0 fun a b => by
  cases a <;> cases b <;> first | exact .inl ⟨_, _, rfl, rfl, rfl⟩ | exact .inr rfl
theorem od_xor {S : Sta} : OpD S (rI0 fun i j => .int (Builtin.bitXor i j)) opXor n := opd_I0 fun a b => by
  cases a <;> cases b <;> first | exact .inl ⟨_, _, rfl, rfl, rfl⟩ | exact .inr rfl
theorem und_I {S : Sta} {g : Int → Int} {f : D → Res D} (hf : ∀ a, (∃ i, a = .int i ∧ f a = .ok (.int (g i))) ∨ f a = .stuck) : UnD S (rU fun i => .int (g i)) f n := by
  intro W σ H Hs a x Q sub ra p
  rcases hf a with ⟨i, rfl, e⟩ | e
  · unfold Rep at ra
    rw [e] at p
    exact ⟨i, ra, p _ H Hs [] (Step.refl sub) (Own.scal rfl rep_int)⟩
  · rw [e] at p; exact p.elim
theorem ud_neg {S : Sta} : UnD S (rU fun i => .int (-i)) opNeg n := und_I fun a => by
  cases a <;> first | exact .inl ⟨_, rfl, rfl⟩ | exact .inr rfl
theorem ud_inv {S : Sta} : UnD S (rU fun i => .int (Builtin.bitNot i)) opInv n := und_I fun a => by
  cases a <;> first | exact .inl ⟨_, rfl, rfl⟩ | exact .inr rfl
end
end VL
/-! VLExpr2: comparisons, tests, displays, calls, items, slices, built-in functions. -/
namespace VL
open PySem PySem.Spec L2
section
variable {X : Cx} {W : WX} {Γ : List Nat} {h : Option (Nat × Addr × Er)} {a b c e : Expr} {es rest : List Expr} {ma mb mc : M D} {mas : M (List D)} {qa qb : M Bool} {na nb nc n k : Nat} {pos : Pos} {op op' : CmpOp} {r r' : R2} {f g : D → D → Res D} {t : TE}
/-! ### comparisons -/
theorem e_cmp (ho : OpR X (compareOp op) r) (hf : OpD (sta X h) r f n) (ha : PE X a (tE (sta X h) W Γ ma na)) (hb : PE X b (tE (sta X h) W Γ mb nb)) (hm : behindInMarks op b = false) :
    PE X (.Compare a [op] [b] pos) (tE (sta X h) W Γ (dOp2 f ma mb) n) := impE (pe_cmpR ho ha hb hm) fun σ H Q w => op2_of hf w
/-- a test of a value that is a bool -/
theorem test_of {S : Sta} {σ : L2.St} {H : Hp} {Q : Bool → Hp → Prop} {m : M D} (hi : ∀ Q, tE S W Γ m n σ H Q → t σ H Q) (w : tQ S W Γ (qB m) σ H Q) : tTest t σ H Q := by
  obtain ⟨H0, G0, Hs, F, η, ok, p⟩ := w
  refine hi _ (tE.use ok ((Post.bind p).imp fun d pd v H' Hs' st rd ok' => ?_))
  unfold toB at pd
  split at pd
  · rename_i b
    unfold Rep at rd
    exact ⟨b, rd, pd H' Hs' st⟩
  · exact pd.elim
theorem q_cmp (ho : OpR X (compareOp op) r) (hf : OpD (sta X h) r f 0) (ha : PE X a (tE (sta X h) W Γ ma na)) (hb : PE X b (tE (sta X h) W Γ mb nb)) (hm : behindInMarks op b = false) :
    PT X (.Compare a [op] [b] pos) (tQ (sta X h) W Γ (qB (dOp2 f ma mb))) := impT (pt_cmpR ho ha hb hm) fun σ H Q w => test_of (fun Q w => op2_of hf w) w
theorem chain_of {S : Sta} {σ : L2.St} {H : Hp} {Q : VK} (hf : OpD S r f 0) (hg : OpD S r' g n) (w : tE S W Γ (dChain f g ma mb mc) n σ H Q) : tChain r r' (tE S W Γ ma na) (tE S W Γ mb nb) (tE S W Γ mc nc) σ H Q := by
  obtain ⟨H0, G0, Hs, F, η, ok, p⟩ := w
  refine tE.use ok ((Post.bind p).imp fun x px v H1 Hs1 st1 r1 ok1 => ?_)
  refine tE.use ok1 (((Post.bind px).up st1.all).imp fun y py u H2 Hs2 st2 r2 ok2 => ?_)
  refine hf W σ H2 Hs2 x y v u _ ok2.sub (r1.same st2.shr) r2 (((Post.bind py).up (st1.all.trans st2.all)).imp fun d pd v' H3 Hs3 Fr st o => ?_)
  have pb := Post.bind pd
  obtain ⟨e0, rd⟩ := Own.zero.mp o
  unfold toB at pb
  split at pb
  · rename_i bb
    unfold Rep at rd
    refine ⟨bb, rd, ?_⟩
    have st3 : Step H Hs H3 Hs3 Fr := (st1.trans st2).trans st
    cases bb with
    | true =>
      have pb' : Post S W σ H ((mc η).bind fun z => g y z) _ := pb
      rw [if_pos rfl]
      refine tE.use (ok2.step st) (((Post.bind pb').up st3.all).imp fun z pz w' H4 Hs4 st4 r4 ok4 => ?_)
      exact hg W σ H4 Hs4 y z u w' Q ok4.sub (r2.same (st.shr.trans st4.shr)) r4 ((pz.up (st3.all.trans st4.all)).imp fun d k v5 H5 Hs5 Fr5 st5 o5 => k v5 H5 Hs5 Fr5 ((st3.drop.trans st4).trans st5) o5)
    | false =>
      rw [if_neg Bool.false_ne_true]
      have pb' : ∀ (v : V) (H' Hs' : Hp) (Fr : List Addr), Step H Hs H' Hs' Fr → Own S H' Hs' (.bl false) n v Fr → Q v H' := pb
      exact pb' _ _ _ _ st3.drop (Own.scal rfl rep_bl)
  · exact pb.elim
theorem e_chain (ho : OpR X (compareOp op) r) (ho' : OpR X (compareOp op') r') (hf : OpD (sta X h) r f 0) (hg : OpD (sta X h) r' g n) (ha : PE X a (tE (sta X h) W Γ ma na)) (hb : PE X b (tE (sta X h) W Γ mb nb)) (hc : PE X c (tE (sta X h) W Γ mc nc))
    (hm : lastMarks [op, op'] [b, c] = false := by with_unfolding_all rfl) : PE X (.Compare a [op, op'] [b, c] pos) (tE (sta X h) W Γ (dChain f g ma mb mc) n) := impE (pe_chain ho ho' ha hb hc hm) fun σ H Q w => chain_of hf hg w
theorem q_chain (ho : OpR X (compareOp op) r) (ho' : OpR X (compareOp op') r') (hf : OpD (sta X h) r f 0) (hg : OpD (sta X h) r' g 0) (ha : PE X a (tE (sta X h) W Γ ma na)) (hb : PE X b (tE (sta X h) W Γ mb nb)) (hc : PE X c (tE (sta X h) W Γ mc nc))
    (hm : lastMarks [op, op'] [b, c] = false := by with_unfolding_all rfl) : PT X (.Compare a [op, op'] [b, c] pos) (tQ (sta X h) W Γ (qB (dChain f g ma mb mc))) := impT (pt_chain ho ho' ha hb hc hm) fun σ H Q w => test_of (fun Q w => chain_of hf hg w) w
theorem ob_eq : OpD (sta X h) (rEqD X.K) opEq n :=by
  intro W σ H Hs a b x y Q sub ra rb p
  unfold opEq at p
  split at p
  · rename_i q
    rw [Bool.and_eq_true] at q
    obtain ⟨q1, q2⟩ := q
    unfold D.eqOk at q1 q2
    rw [Bool.and_eq_true] at q1 q2
    exact ⟨_, _, Rep.dp a x q1.1 (ra.same sub), Rep.dp b y q2.1 (rb.same sub), q1.2, q2.2, p _ H Hs [] (Step.refl sub) (Own.scal rfl rep_bl)⟩
  · exact p.elim
theorem od_eq (hu : X.A.units + 64 < cLine) : OpR X (compareOp .Eq) (rEqD X.K) ∧ OpD (sta X h) (rEqD X.K) opEq n := ⟨op_eqD hu, ob_eq⟩
theorem ob_ne : OpD (sta X h) (rNeD X.K) opNe n :=by
  intro W σ H Hs a b x y Q sub ra rb p
  unfold opNe at p
  split at p
  · rename_i q
    rw [Bool.and_eq_true] at q
    obtain ⟨q1, q2⟩ := q
    unfold D.eqOk at q1 q2
    rw [Bool.and_eq_true] at q1 q2
    exact ⟨_, _, Rep.dp a x q1.1 (ra.same sub), Rep.dp b y q2.1 (rb.same sub), q1.2, q2.2, p _ H Hs [] (Step.refl sub) (Own.scal rfl rep_bl)⟩
  · exact p.elim
theorem od_ne (hu : X.A.units + 64 < cLine) : OpR X (compareOp .NotEq) (rNeD X.K) ∧ OpD (sta X h) (rNeD X.K) opNe n := ⟨op_neD hu, ob_ne⟩
theorem od_isB {S : Sta} : OpD S rIsB opIsB n := by
  intro W σ H Hs a b x y Q sub ra rb p
  unfold opIsB at p
  split at p
  · unfold Rep at ra rb
    exact ⟨_, _, ra, rb, p _ H Hs [] (Step.refl sub) (Own.scal rfl rep_bl)⟩
  · exact p.elim
theorem od_notB {S : Sta} : OpD S rNotB opIsNotB n := by
  intro W σ H Hs a b x y Q sub ra rb p
  unfold opIsNotB at p
  split at p
  · unfold Rep at ra rb
    exact ⟨_, _, ra, rb, p _ H Hs [] (Step.refl sub) (Own.scal rfl rep_bl)⟩
  · exact p.elim
theorem rep_non {S : Sta} {H : Hp} {d : D} {v : V} (r : Rep S H d v) : decide (v = .non) = d.isNon := by
  cases d <;> (unfold Rep at r) <;> first
    | (rw [r]; rfl)
    | (obtain ⟨_, _, r, _⟩ := r; rw [r]; rfl)
    | (obtain ⟨_, _, _, _, r, _⟩ := r; rw [r]; rfl)
    | (obtain ⟨_, r, _⟩ := r; rw [r]; rfl)
theorem e_isNone {j pos'} (ha : PE X a (tE (sta X h) W Γ ma na)) : PE X (.Compare a [.Is] [.Constant .none j pos'] pos) (tE (sta X h) W Γ (dOp1 opIsNone ma) n) := impE (pe_cmp (pc_isN ha)) fun σ H Q w => by
  obtain ⟨H0, G0, Hs, F, η, ok, p⟩ := w
  refine tE.use ok ((Post.bind p).imp fun d pd v H' Hs' st rd ok' => ?_)
  rw [rep_non rd]
  exact pd _ H' Hs' [] st (Own.scal rfl rep_bl)
theorem e_notNone {j pos'} (ha : PE X a (tE (sta X h) W Γ ma na)) : PE X (.Compare a [.IsNot] [.Constant .none j pos'] pos) (tE (sta X h) W Γ (dOp1 opNotNone ma) n) := impE (pe_cmp (pc_notN ha)) fun σ H Q w => by
  obtain ⟨H0, G0, Hs, F, η, ok, p⟩ := w
  refine tE.use ok ((Post.bind p).imp fun d pd v H' Hs' st rd ok' => ?_)
  rw [rep_non rd]
  exact pd _ H' Hs' [] st (Own.scal rfl rep_bl)
theorem q_isNone {j pos'} (ha : PE X a (tE (sta X h) W Γ ma na)) : PT X (.Compare a [.Is] [.Constant .none j pos'] pos) (tQ (sta X h) W Γ (qB (dOp1 opIsNone ma))) := impT (pt_cmp (pc_isN ha)) fun σ H Q w => by
  obtain ⟨H0, G0, Hs, F, η, ok, p⟩ := w
  refine tE.use ok ((Post.bind (Post.bind p)).imp fun d pd v H' Hs' st rd ok' => ?_)
  rw [rep_non rd]
  exact ⟨_, rfl, pd H' Hs' st⟩
theorem q_notNone {j pos'} (ha : PE X a (tE (sta X h) W Γ ma na)) : PT X (.Compare a [.IsNot] [.Constant .none j pos'] pos) (tQ (sta X h) W Γ (qB (dOp1 opNotNone ma))) := impT (pt_cmp (pc_notN ha)) fun σ H Q w => by
  obtain ⟨H0, G0, Hs, F, η, ok, p⟩ := w
  refine tE.use ok ((Post.bind (Post.bind p)).imp fun d pd v H' Hs' st rd ok' => ?_)
  rw [rep_non rd]
  exact ⟨_, rfl, pd H' Hs' st⟩
/-! x in a list of plain data -/
theorem ob_in : OpD (sta X h) (rInD X.K) opIn n :=by
  intro W σ H Hs a b x y Q sub ra rb p
  unfold opIn at p
  split at p
  · rename_i ys
    split at p
    · rename_i q
      rw [Bool.and_eq_true] at q
      obtain ⟨q1, q2⟩ := q
      unfold D.eqOk at q1 q2
      rw [Bool.and_eq_true] at q1 q2
      refine ⟨a.toPD, D.toPDs ys, Rep.dp _ x q1.1 (ra.same sub), ?_, q1.2, ?_, ?_⟩
      · have z := Rep.dp _ y q2.1 (rb.same sub)
        unfold D.toPD at z
        exact z
      · have z := q2.2
        unfold D.toPD at z
        exact z
      · have e : ((D.toPDs ys).any fun z => PyData.eqv z (D.toPD a)) = ys.any fun y => D.eqv y a := by
          clear p q1 q2 rb
          induction ys with
          | nil => unfold D.toPDs; rfl
          | cons d ds ih => unfold D.toPDs; rw [List.any_cons, List.any_cons, ih]; rfl
        rw [e]
        exact p _ H Hs [] (Step.refl sub) (Own.scal rfl rep_bl)
    · exact p.elim
  · exact p.elim
theorem od_in (hu : X.A.units + 65 < cLine) : OpR X (compareOp .In) (rInD X.K) ∧ OpD (sta X h) (rInD X.K) opIn n := ⟨op_inD hu, ob_in⟩
theorem ob_notIn : OpD (sta X h) (rNotInD X.K) opNotIn n :=by
  intro W σ H Hs a b x y Q sub ra rb p
  unfold opNotIn at p
  split at p
  · rename_i ys
    split at p
    · rename_i q
      rw [Bool.and_eq_true] at q
      obtain ⟨q1, q2⟩ := q
      unfold D.eqOk at q1 q2
      rw [Bool.and_eq_true] at q1 q2
      refine ⟨a.toPD, D.toPDs ys, Rep.dp _ x q1.1 (ra.same sub), ?_, q1.2, ?_, ?_⟩
      · have z := Rep.dp _ y q2.1 (rb.same sub)
        unfold D.toPD at z
        exact z
      · have z := q2.2
        unfold D.toPD at z
        exact z
      · have e : ((D.toPDs ys).any fun z => PyData.eqv z (D.toPD a)) = ys.any fun y => D.eqv y a := by
          clear p q1 q2 rb
          induction ys with
          | nil => unfold D.toPDs; rfl
          | cons d ds ih => unfold D.toPDs; rw [List.any_cons, List.any_cons, ih]; rfl
        rw [e]
        exact p _ H Hs [] (Step.refl sub) (Own.scal rfl rep_bl)
    · exact p.elim
  · exact p.elim
theorem od_notIn (hu : X.A.units + 65 < cLine) : OpR X (compareOp .NotIn) (rNotInD X.K) ∧ OpD (sta X h) (rNotInD X.K) opNotIn n := ⟨op_notInD hu, ob_notIn⟩
/-! ### and, or, not, if -/
theorem e_one {o : BoolOp} (ha : PE X a t) : PE X (.BoolOp o [a] pos) t := pe_one ha
theorem e_and (ha : PE X a (tE (sta X h) W Γ ma na)) (hb : PE X (.BoolOp .And (b :: rest) pos) (tE (sta X h) W Γ mb n)) : PE X (.BoolOp .And (a :: b :: rest) pos) (tE (sta X h) W Γ (dAnd ma mb) n) := impE (pe_and ha hb) fun σ H Q w => by
  obtain ⟨H0, G0, Hs, F, η, ok, p⟩ := w
  refine tE.use ok ((Post.bind p).imp fun d pd v H' Hs' st rd ok' => ?_)
  have pb := Post.bind pd
  unfold toB at pb
  split at pb
  · rename_i bb
    unfold Rep at rd
    refine ⟨bb, rd, ?_⟩
    cases bb with
    | true =>
      rw [if_pos rfl]
      have pb' : Post (sta X h) W σ H (mb η) _ := pb
      exact ⟨H0, G0, Hs', F, η, ok', (pb'.up st.all).imp fun d k v2 H2 Hs2 Fr st2 o2 => k v2 H2 Hs2 Fr (st.trans st2) o2⟩
    | false =>
      rw [if_neg Bool.false_ne_true]
      have pb' : ∀ (v : V) (H' Hs' : Hp) (Fr : List Addr), Step H Hs H' Hs' Fr → Own (sta X h) H' Hs' (.bl false) n v Fr → Q v H' := pb
      exact pb' _ _ _ _ st (Own.scal rfl rep_bl)
  · exact pb.elim
theorem e_or (ha : PE X a (tE (sta X h) W Γ ma na)) (hb : PE X (.BoolOp .Or (b :: rest) pos) (tE (sta X h) W Γ mb n)) : PE X (.BoolOp .Or (a :: b :: rest) pos) (tE (sta X h) W Γ (dOr ma mb) n) := impE (pe_or ha hb) fun σ H Q w => by
  obtain ⟨H0, G0, Hs, F, η, ok, p⟩ := w
  refine tE.use ok ((Post.bind p).imp fun d pd v H' Hs' st rd ok' => ?_)
  have pb := Post.bind pd
  unfold toB at pb
  split at pb
  · rename_i bb
    unfold Rep at rd
    refine ⟨bb, rd, ?_⟩
    cases bb with
    | true =>
      rw [if_pos rfl]
      have pb' : ∀ (v : V) (H' Hs' : Hp) (Fr : List Addr), Step H Hs H' Hs' Fr → Own (sta X h) H' Hs' (.bl true) n v Fr → Q v H' := pb
      exact pb' _ _ _ _ st (Own.scal rfl rep_bl)
    | false =>
      rw [if_neg Bool.false_ne_true]
      have pb' : Post (sta X h) W σ H (mb η) _ := pb
      exact ⟨H0, G0, Hs', F, η, ok', (pb'.up st.all).imp fun d k v2 H2 Hs2 Fr st2 o2 => k v2 H2 Hs2 Fr (st.trans st2) o2⟩
  · exact pb.elim
theorem e_not (ha : PE X a (tE (sta X h) W Γ ma na)) : PE X (.UnaryOp .Not a pos) (tE (sta X h) W Γ (dNot ma) n) := impE (pe_not ha) fun σ H Q w => by
  obtain ⟨H0, G0, Hs, F, η, ok, p⟩ := w
  refine tE.use ok ((Post.bind p).imp fun d pd v H' Hs' st rd ok' => ?_)
  have pb := Post.bind pd
  unfold toB at pb
  split at pb
  · rename_i bb
    unfold Rep at rd
    exact ⟨bb, rd, pb _ _ _ _ st (Own.scal rfl rep_bl)⟩
  · exact pb.elim
/-- a test by the value's truth -/
theorem q_tru (ha : PE X a (tE (sta X h) W Γ ma na)) (he : ∀ whole, isTrue a X.env whole = (do let v ← whole; standAt a.pos; holding [v] (truthy v)) := by intro _; rfl) : PT X a (tQ (sta X h) W Γ (qTru ma)) := impT (pt_truth ha he) fun σ H Q w => by
  obtain ⟨H0, G0, Hs, F, η, ok, p⟩ := w
  refine tE.use ok ((Post.bind p).imp fun d pd v H' Hs' st rd ok' => ?_)
  unfold D.truth at pd
  cases d <;> first | exact pd.elim | skip
  · unfold Rep at rd
    exact ⟨false, by rw [rd]; exact rfl, pd H' Hs' st⟩
  · unfold Rep at rd
    exact ⟨_, by rw [rd]; exact rfl, pd H' Hs' st⟩
  · unfold Rep at rd
    exact ⟨_, by rw [rd]; exact rfl, pd H' Hs' st⟩
  · rename_i xs
    unfold Rep at rd
    obtain ⟨l, vs, rfl, r1, r2⟩ := rd
    have e : vs.isEmpty = xs.isEmpty := by
      have z := r2.length
      cases vs <;> cases xs <;> first | rfl | simp at z
    exact ⟨_, Or.inl ⟨vs, Or.inl (rd_sub ok'.sub r1), by rw [e]⟩, pd H' Hs' st⟩
  · rename_i xs
    unfold Rep at rd
    obtain ⟨l, vs, rfl, r1, r2⟩ := rd
    have e : vs.isEmpty = xs.isEmpty := by
      have z := r2.length
      cases vs <;> cases xs <;> first | rfl | simp at z
    exact ⟨_, Or.inr (Or.inl ⟨vs, sqt_sub ok'.sub r1, by rw [e]⟩), pd H' Hs' st⟩
theorem w_and1 (ha : PT X a (tQ (sta X h) W Γ qa)) : PW X (.BoolOp .And [a] pos) (tQ (sta X h) W Γ qa) := pw_and1 ha
theorem w_or1 (ha : PT X a (tQ (sta X h) W Γ qa)) : PW X (.BoolOp .Or [a] pos) (tQ (sta X h) W Γ qa) := pw_or1 ha
theorem w_and (ha : PT X a (tQ (sta X h) W Γ qa)) (hb : PW X (.BoolOp .And (b :: rest) pos) (tQ (sta X h) W Γ qb)) : PW X (.BoolOp .And (a :: b :: rest) pos) (tQ (sta X h) W Γ (qAnd qa qb)) := impW (pw_and ha hb) fun σ H Q w => by
  obtain ⟨H0, G0, Hs, F, η, ok, p⟩ := w
  refine tQ.use ok ((Post.bind p).imp fun b pb H' Hs' st ok' => ?_)
  cases b with
  | true =>
    rw [if_pos rfl]
    have pb' : Post (sta X h) W σ H (qb η) _ := pb
    exact ⟨H0, G0, Hs', F, η, ok', (pb'.up st.all).imp fun b k H2 Hs2 st2 => k H2 Hs2 (st.trans st2)⟩
  | false =>
    rw [if_neg Bool.false_ne_true]
    have pb' : ∀ (H' Hs' : Hp), Step H Hs H' Hs' [] → Q false H' := pb
    exact pb' _ _ st
theorem w_or (ha : PT X a (tQ (sta X h) W Γ qa)) (hb : PW X (.BoolOp .Or (b :: rest) pos) (tQ (sta X h) W Γ qb)) : PW X (.BoolOp .Or (a :: b :: rest) pos) (tQ (sta X h) W Γ (qOr qa qb)) := impW (pw_or ha hb) fun σ H Q w => by
  obtain ⟨H0, G0, Hs, F, η, ok, p⟩ := w
  refine tQ.use ok ((Post.bind p).imp fun b pb H' Hs' st ok' => ?_)
  cases b with
  | true =>
    rw [if_pos rfl]
    have pb' : ∀ (H' Hs' : Hp), Step H Hs H' Hs' [] → Q true H' := pb
    exact pb' _ _ st
  | false =>
    rw [if_neg Bool.false_ne_true]
    have pb' : Post (sta X h) W σ H (qb η) _ := pb
    exact ⟨H0, G0, Hs', F, η, ok', (pb'.up st.all).imp fun b k H2 Hs2 st2 => k H2 Hs2 (st.trans st2)⟩
theorem q_w (ha : PW X a (tQ (sta X h) W Γ qa)) : PT X a (tQ (sta X h) W Γ qa) := ha.pt
theorem q_not (ha : PT X a (tQ (sta X h) W Γ qa)) : PT X (.UnaryOp .Not a pos) (tQ (sta X h) W Γ (qNot qa)) := impT (pt_not ha) fun σ H Q w => by
  obtain ⟨H0, G0, Hs, F, η, ok, p⟩ := w
  exact tQ.use ok ((Post.bind p).imp fun b pb H' Hs' st ok' => pb H' Hs' st)
theorem e_if (hc : PT X c (tQ (sta X h) W Γ qa)) (ha : PE X a (tE (sta X h) W Γ ma n)) (hb : PE X b (tE (sta X h) W Γ mb n)) : PE X (.IfExp c a b pos) (tE (sta X h) W Γ (dIf qa ma mb) n) := impE (pe_ifExp hc ha hb) fun σ H Q w => by
  obtain ⟨H0, G0, Hs, F, η, ok, p⟩ := w
  refine tQ.use ok ((Post.bind p).imp fun b pb H' Hs' st ok' => ?_)
  cases b with
  | true =>
    rw [if_pos rfl]
    have pb' : Post (sta X h) W σ H (ma η) _ := pb
    exact ⟨H0, G0, Hs', F, η, ok', (pb'.up st.all).imp fun d k v2 H2 Hs2 Fr st2 o2 => k v2 H2 Hs2 Fr (st.trans st2) o2⟩
  | false =>
    rw [if_neg Bool.false_ne_true]
    have pb' : Post (sta X h) W σ H (mb η) _ := pb
    exact ⟨H0, G0, Hs', F, η, ok', (pb'.up st.all).imp fun d k v2 H2 Hs2 Fr st2 o2 => k v2 H2 Hs2 Fr (st.trans st2) o2⟩
/-! ### arguments, displays -/
theorem a_nil : PA X [] (tA (sta X h) W Γ aNil) := impA pa_nil fun σ H Q w => by
  obtain ⟨H0, G0, Hs, F, η, ok, p⟩ := w
  exact p [] H Hs (Step.refl ok.sub) (Reps.nil_iff.mpr rfl)
theorem a_cons (ha : PE X e (tE (sta X h) W Γ ma na)) (hr : PA X es (tA (sta X h) W Γ mas)) (hs : starEach (e :: es) X.env = (false, eval e X.env) :: starEach es X.env := by rfl) : PA X (e :: es) (tA (sta X h) W Γ (aCons ma mas)) := impA (pa_cons ha hr hs) fun σ H Q w => by
  obtain ⟨H0, G0, Hs, F, η, ok, p⟩ := w
  refine tE.use ok ((Post.bind p).imp fun d pd v H1 Hs1 st1 r1 ok1 => ?_)
  refine tA.use ok1 (((Post.bind pd).up st1.all).imp fun ds pds vs H2 Hs2 st2 r2 ok2 => ?_)
  exact pds (v :: vs) H2 Hs2 (st1.trans st2) (Reps.cons_iff.mpr ⟨v, vs, rfl, r1.same st2.shr, r2⟩)
theorem e_tup {x1} (ha : PA X es (tA (sta X h) W Γ mas)) : PE X (.Tuple es x1 pos) (tE (sta X h) W Γ (dTup mas) n) := impE (pe_tup ha) fun σ H Q w => by
  obtain ⟨H0, G0, Hs, F, η, ok, p⟩ := w
  refine tA.use ok ((Post.bind p).imp fun ds pd vs H1 Hs1 st1 r1 ok1 => ?_)
  split at pd
  · rename_i hl
    exact ⟨by rw [r1.length, ← line_eq]; exact hl, fun q hq => pd _ _ _ [] (st1.trans (Step.newS ok1.sub hq)) (Own.scal rfl (rep_newT ok1.sub hq r1))⟩
  · exact pd.elim
theorem e_lst (ha : PA X es (tA (sta X h) W Γ mas)) : PE X (.List es pos) (tE (sta X h) W Γ (dLst mas) 1) := impE (pe_lst ha) fun σ H Q w => by
  obtain ⟨H0, G0, Hs, F, η, ok, p⟩ := w
  refine tA.use ok ((Post.bind p).imp fun ds pd vs H1 Hs1 st1 r1 ok1 => ?_)
  split at pd
  · rename_i hl
    exact ⟨by rw [r1.length, ← line_eq]; exact hl, fun q hq => pd _ _ _ _ (st1.trans (Step.newO ok1.sub hq)) (own_new hq r1)⟩
  · exact pd.elim
/-- a fresh value is shared -/
theorem e_fz (ha : PE X e (tE (sta X h) W Γ ma na)) : PE X e (tE (sta X h) W Γ ma 0) := impE ha fun σ H Q w => by
  obtain ⟨H0, G0, Hs, F, η, ok, p⟩ := w
  exact tE.use ok (p.imp fun d k v H' Hs' st r _ => k v H' Hs' [] st r.own)
/-! ### built-in functions -/
theorem e_blt {x : Str} {id : String} {f : List D → Res D} {r : List V → Hp → VK → Prop} {p : Pos} (hc : CallR X (.builtin id) r) (hf : CallD (sta X h) r f n) (hg : Gl X x) (hm : X.mg x = none) (hv : bootBuiltins x = some (.builtin id)) (ha : PA X (e :: es) (tA (sta X h) W Γ mas))
    (hn : x ≠ "__name__" := by decide) (hdb : (x == ("__debug__" : Str)) = false := by decide) (hs : starEach (e :: es) X.env = (false, eval e X.env) :: starEach es X.env := by rfl) (hpl : (backTo pos (starEach es X.env)).any (·.1) = false := by rfl) :
    PE X (.Call (.Name x p) (e :: es) [] pos) (tE (sta X h) W Γ (dCall f mas) n) := impE (pe_callB hc hg hm hv ha hn hdb hs hpl) fun σ H Q w => by
  obtain ⟨H0, G0, Hs, F, η, ok, p⟩ := w
  refine tA.use ok ((Post.bind p).imp fun ds pd vs H1 Hs1 st1 r1 ok1 => ?_)
  exact hf W σ H1 Hs1 ds vs Q ok1.sub r1 ((pd.up st1.all).imp fun d k v H' Hs' Fr st o => k v H' Hs' Fr (st1.trans st) o)
theorem e_ty {x : Str} {T : String} {f : List D → Res D} {r : List V → Hp → VK → Prop} {p : Pos} (hc : CallR X (.type T) r) (hf : CallD (sta X h) r f n) (hg : Gl X x) (hm : X.mg x = none) (hv : bootBuiltins x = some (.type T)) (ha : PA X (e :: es) (tA (sta X h) W Γ mas))
    (hn : x ≠ "__name__" := by decide) (hdb : (x == ("__debug__" : Str)) = false := by decide) (hs : starEach (e :: es) X.env = (false, eval e X.env) :: starEach es X.env := by rfl) (hpl : (backTo pos (starEach es X.env)).any (·.1) = false := by rfl) :
    PE X (.Call (.Name x p) (e :: es) [] pos) (tE (sta X h) W Γ (dCall f mas) n) := impE (pe_callTy hc hg hm hv ha hn hdb hs hpl) fun σ H Q w => by
  obtain ⟨H0, G0, Hs, F, η, ok, p⟩ := w
  refine tA.use ok ((Post.bind p).imp fun ds pd vs H1 Hs1 st1 r1 ok1 => ?_)
  exact hf W σ H1 Hs1 ds vs Q ok1.sub r1 ((pd.up st1.all).imp fun d k v H' Hs' Fr st o => k v H' Hs' Fr (st1.trans st) o)
end
end VL
/-! VLExpr3: built-in functions by name, items, slices, isinstance, defs called, what is owned is looked at, comprehensions. -/
namespace VL
open PySem PySem.Spec L2
theorem bt_abs : bootBuiltins "abs" = some (.builtin "abs") := by decide +kernel
theorem bt_len : bootBuiltins "len" = some (.builtin "len") := by decide +kernel
theorem bt_max : bootBuiltins "max" = some (.builtin "max") := by decide +kernel
theorem bt_min : bootBuiltins "min" = some (.builtin "min") := by decide +kernel
theorem bt_sum : bootBuiltins "sum" = some (.builtin "sum") := by decide +kernel
theorem bt_isi : bootBuiltins "isinstance" = some (.builtin "isinstance") := by decide +kernel
theorem bt_int : bootBuiltins "int" = some (.type "int") := by decide +kernel
theorem bt_bool : bootBuiltins "bool" = some (.type "bool") := by decide +kernel
theorem bt_str : bootBuiltins "str" = some (.type "str") := by decide +kernel
theorem bt_list : bootBuiltins "list" = some (.type "list") := by decide +kernel
theorem bt_tuple : bootBuiltins "tuple" = some (.type "tuple") := by decide +kernel
section
variable {S : Sta} {K : PySem.W.Frag} {X : Cx} {n : Nat} {h : Option (Nat × Addr × Er)}
theorem reps1 {H : Hp} {d : D} {xs : List V} (r : Reps S H [d] xs) : ∃ v, xs = [v] ∧ Rep S H d v := by
  obtain ⟨v, ws, rfl, h1, h2⟩ := Reps.cons_iff.mp r
  rw [Reps.nil_iff.mp h2]
  exact ⟨v, rfl, h1⟩
theorem reps2 {H : Hp} {d e : D} {xs : List V} (r : Reps S H [d, e] xs) : ∃ v w, xs = [v, w] ∧ Rep S H d v ∧ Rep S H e w := by
  obtain ⟨v, ws, rfl, h1, h2⟩ := Reps.cons_iff.mp r
  obtain ⟨w, rfl, h3⟩ := reps1 h2
  exact ⟨v, w, rfl, h1, h3⟩
theorem cd_abs : CallD S (fun xs H Q => ∃ i, xs = [.int i] ∧ Q (.int (if i < 0 then -i else i)) H) fAbs n := by
  intro W σ H Hs as xs Q sub r p
  unfold fAbs at p
  split at p
  · obtain ⟨v, rfl, h1⟩ := reps1 r
    unfold Rep at h1
    exact ⟨_, by rw [h1], p _ H Hs [] (Step.refl sub) (Own.scal rfl rep_int)⟩
  · exact p.elim
theorem cd_int : CallD S (fun xs H Q => (∃ i, xs = [.int i] ∧ Q (.int i) H) ∨ ∃ k, xs = [.bl k] ∧ Q (.int (if k then 1 else 0)) H) fInt n := by
  intro W σ H Hs as xs Q sub r p
  unfold fInt at p
  split at p
  · obtain ⟨v, rfl, h1⟩ := reps1 r
    unfold Rep at h1
    exact .inl ⟨_, by rw [h1], p _ H Hs [] (Step.refl sub) (Own.scal rfl rep_int)⟩
  · obtain ⟨v, rfl, h1⟩ := reps1 r
    unfold Rep at h1
    exact .inr ⟨_, by rw [h1], p _ H Hs [] (Step.refl sub) (Own.scal rfl rep_int)⟩
  · exact p.elim
theorem cd_len : CallD (sta X h) (fun xs H Q => ∃ p ys, xs = [.ref p] ∧ (SqL X.K H p ys ∨ SqT X.K H p ys) ∧ Q (.int ys.length) H) fLen n := by
  intro W σ H Hs as xs Q sub r p
  unfold fLen at p
  split at p
  · obtain ⟨v, rfl, h1⟩ := reps1 r
    unfold Rep at h1
    obtain ⟨a, vs, rfl, h2, h3⟩ := h1
    exact ⟨a, vs, rfl, .inl (.inl (rd_sub sub h2)), by rw [h3.length]; exact p _ H Hs [] (Step.refl sub) (Own.scal rfl rep_int)⟩
  · obtain ⟨v, rfl, h1⟩ := reps1 r
    unfold Rep at h1
    obtain ⟨a, vs, rfl, h2, h3⟩ := h1
    exact ⟨a, vs, rfl, .inr (sqt_sub sub h2), by rw [h3.length]; exact p _ H Hs [] (Step.refl sub) (Own.scal rfl rep_int)⟩
  · exact p.elim
theorem cd_max2 : CallD S (fun xs H Q => ∃ i j, xs = [.int i, .int j] ∧ Q (.int (if j > i then j else i)) H) fMax2 n := by
  intro W σ H Hs as xs Q sub r p
  unfold fMax2 at p
  split at p
  · obtain ⟨v, w, rfl, h1, h2⟩ := reps2 r
    unfold Rep at h1 h2
    exact ⟨_, _, by rw [h1, h2], p _ H Hs [] (Step.refl sub) (Own.scal rfl rep_int)⟩
  · exact p.elim
theorem cd_min2 : CallD S (fun xs H Q => ∃ i j, xs = [.int i, .int j] ∧ Q (.int (if j < i then j else i)) H) fMin2 n := by
  intro W σ H Hs as xs Q sub r p
  unfold fMin2 at p
  split at p
  · obtain ⟨v, w, rfl, h1, h2⟩ := reps2 r
    unfold Rep at h1 h2
    exact ⟨_, _, by rw [h1, h2], p _ H Hs [] (Step.refl sub) (Own.scal rfl rep_int)⟩
  · exact p.elim
theorem maxL_spec : ∀ (a : Int) (r : List Int), maxL (a :: r) ∈ a :: r ∧ ∀ y ∈ a :: r, y ≤ maxL (a :: r)
  | a, [] => ⟨by simp [maxL], fun y hy => by simp at hy; simp [maxL, hy]⟩
  | a, b :: r => by
    obtain ⟨h1, h2⟩ := maxL_spec b r
    unfold maxL
    split
    · rename_i hlt
      refine ⟨List.mem_cons_of_mem _ h1, fun y hy => ?_⟩
      rcases List.mem_cons.mp hy with e | hy
      · rw [e]; omega
      · exact h2 y hy
    · rename_i hlt
      refine ⟨List.mem_cons_self, fun y hy => ?_⟩
      rcases List.mem_cons.mp hy with e | hy
      · rw [e]; omega
      · have := h2 y hy; omega
theorem minL_spec : ∀ (a : Int) (r : List Int), minL (a :: r) ∈ a :: r ∧ ∀ y ∈ a :: r, minL (a :: r) ≤ y
  | a, [] => ⟨by simp [minL], fun y hy => by simp at hy; simp [minL, hy]⟩
  | a, b :: r => by
    obtain ⟨h1, h2⟩ := minL_spec b r
    unfold minL
    split
    · rename_i hlt
      refine ⟨List.mem_cons_of_mem _ h1, fun y hy => ?_⟩
      rcases List.mem_cons.mp hy with e | hy
      · rw [e]; omega
      · exact h2 y hy
    · rename_i hlt
      refine ⟨List.mem_cons_self, fun y hy => ?_⟩
      rcases List.mem_cons.mp hy with e | hy
      · rw [e]; omega
      · have := h2 y hy; omega
theorem cd_max : CallD (sta X h) (rMax X.K) fMax n := by
  intro W σ H Hs as xs Q sub r p
  unfold fMax at p
  split at p
  · rename_i ds
    obtain ⟨v, rfl, h1⟩ := reps1 r
    unfold Rep at h1
    obtain ⟨a, vs, rfl, h2, h3⟩ := h1
    split at p
    · rename_i z zs e
      have ev := h3.ints e
      subst ev
      refine ⟨a, z :: zs, rfl, .inl (rd_sub sub h2), by simp, fun m hm hle => ?_⟩
      obtain ⟨q1, q2⟩ := maxL_spec z zs
      have em : m = maxL (z :: zs) := Int.le_antisymm (q2 m hm) (hle _ q1)
      rw [em]
      exact p _ H Hs [] (Step.refl sub) (Own.scal rfl rep_int)
    · exact p.elim
  · exact p.elim
theorem cd_min : CallD (sta X h) (rMin X.K) fMin n := by
  intro W σ H Hs as xs Q sub r p
  unfold fMin at p
  split at p
  · rename_i ds
    obtain ⟨v, rfl, h1⟩ := reps1 r
    unfold Rep at h1
    obtain ⟨a, vs, rfl, h2, h3⟩ := h1
    split at p
    · rename_i z zs e
      have ev := h3.ints e
      subst ev
      refine ⟨a, z :: zs, rfl, .inl (rd_sub sub h2), by simp, fun m hm hle => ?_⟩
      obtain ⟨q1, q2⟩ := minL_spec z zs
      have em : m = minL (z :: zs) := Int.le_antisymm (hle _ q1) (q2 m hm)
      rw [em]
      exact p _ H Hs [] (Step.refl sub) (Own.scal rfl rep_int)
    · exact p.elim
  · exact p.elim
theorem cd_sum : CallD (sta X h) (rSum X.K) fSum n := by
  intro W σ H Hs as xs Q sub r p
  unfold fSum at p
  split at p
  · rename_i ds
    obtain ⟨v, rfl, h1⟩ := reps1 r
    unfold Rep at h1
    obtain ⟨a, vs, rfl, h2, h3⟩ := h1
    split at p
    · rename_i zs e
      have ev := h3.ints e
      subst ev
      exact ⟨a, zs, rfl, .inl (rd_sub sub h2), p _ H Hs [] (Step.refl sub) (Own.scal rfl rep_int)⟩
    · exact p.elim
  · exact p.elim
theorem cd_list : CallD (sta X h) (fun xs H Q => ∃ p ys, xs = [.ref p] ∧ (SqL X.K H p ys ∨ SqT X.K H p ys) ∧ ∀ l, H l = none → Q (.ref l) (upd H l (.lst ys))) fList 1 := by
  intro W σ H Hs as xs Q sub r p
  unfold fList at p
  split at p
  · obtain ⟨v, rfl, h1⟩ := reps1 r
    unfold Rep at h1
    obtain ⟨a, vs, rfl, h2, h3⟩ := h1
    exact ⟨a, vs, rfl, .inl (.inl (rd_sub sub h2)), fun l hl => p _ _ _ _ (Step.newO sub hl) (own_new hl h3)⟩
  · obtain ⟨v, rfl, h1⟩ := reps1 r
    unfold Rep at h1
    obtain ⟨a, vs, rfl, h2, h3⟩ := h1
    exact ⟨a, vs, rfl, .inr (sqt_sub sub h2), fun l hl => p _ _ _ _ (Step.newO sub hl) (own_new hl h3)⟩
  · exact p.elim
theorem cd_tuple : CallD (sta X h) (fun xs H Q => ∃ p ys, xs = [.ref p] ∧ ((SqL X.K H p ys ∧ ∀ l, H l = none → Q (.ref l) (upd H l (.tup ys))) ∨ (SqT X.K H p ys ∧ Q (.ref p) H))) fTuple n := by
  intro W σ H Hs as xs Q sub r p
  unfold fTuple at p
  split at p
  · obtain ⟨v, rfl, h1⟩ := reps1 r
    unfold Rep at h1
    obtain ⟨a, vs, rfl, h2, h3⟩ := h1
    exact ⟨a, vs, rfl, .inl ⟨.inl (rd_sub sub h2), fun l hl => p _ _ _ _ (Step.newS sub hl) (Own.scal rfl (rep_newT sub hl h3))⟩⟩
  · obtain ⟨v, rfl, h1⟩ := reps1 r
    have h1' := h1
    unfold Rep at h1
    obtain ⟨a, vs, rfl, h2, h3⟩ := h1
    exact ⟨a, vs, rfl, .inr ⟨sqt_sub sub h2, p _ H Hs [] (Step.refl sub) (Own.scal rfl h1')⟩⟩
  · exact p.elim
/-! ### items -/
theorem atD_get {xs : List D} {i : Int} {d : D} {H : Hp} {vs : List V} (r : Reps S H xs vs) (e : atD xs i = some d) : ∃ v, atI vs i = some v ∧ Rep S H d v := by
  unfold atD at e
  unfold atI
  obtain ⟨j, e1, e2⟩ := Option.bind_eq_some_iff.mp e
  obtain ⟨v, e3, e4⟩ := r.get e2
  refine ⟨v, ?_, e4⟩
  rw [r.length]
  exact Option.bind_eq_some_iff.mpr ⟨j, e1, e3⟩
theorem od_ix : OpD (sta X h) (rIx X.K) opIx 0 := by
  intro W σ H Hs a b x y Q sub ra rb p
  unfold opIx at p
  split at p
  · split at p
    · rename_i d e
      unfold Rep at ra rb
      obtain ⟨l, vs, rfl, h2, h3⟩ := ra
      obtain ⟨v, e1, e2⟩ := atD_get h3 e
      exact .inl ⟨l, vs, _, v, rfl, rb, .inl (rd_sub sub h2), e1, p _ H Hs [] (Step.refl sub) e2.own⟩
    · exact p.elim
  · split at p
    · rename_i d e
      unfold Rep at ra rb
      obtain ⟨l, vs, rfl, h2, h3⟩ := ra
      obtain ⟨v, e1, e2⟩ := atD_get h3 e
      exact .inr (.inl ⟨l, vs, _, v, rfl, rb, sqt_sub sub h2, e1, p _ H Hs [] (Step.refl sub) e2.own⟩)
    · exact p.elim
  · exact p.elim
end
section
variable {X : Cx} {W : WX} {Γ Γ' : List Nat} {h : Option (Nat × Addr × Er)} {a b c e : Expr} {es rest : List Expr} {ma mb mc : M D} {mas : M (List D)} {qa qb : M Bool} {na nb nc n k : Nat} {pos p : Pos}
theorem e_abs (hm : X.mg "abs" = none) (ha : PA X (e :: es) (tA (sta X h) W Γ mas)) (hg : Gl X "abs" := by rfl) (hs : starEach (e :: es) X.env = (false, eval e X.env) :: starEach es X.env := by rfl) (hpl : (backTo pos (starEach es X.env)).any (·.1) = false := by rfl) :
    PE X (.Call (.Name "abs" p) (e :: es) [] pos) (tE (sta X h) W Γ (dCall fAbs mas) n) := e_blt call_abs cd_abs hg hm bt_abs ha (by decide) (by decide) hs hpl
theorem e_len (hm : X.mg "len" = none) (ha : PA X (e :: es) (tA (sta X h) W Γ mas)) (hg : Gl X "len" := by rfl) (hs : starEach (e :: es) X.env = (false, eval e X.env) :: starEach es X.env := by rfl) (hpl : (backTo pos (starEach es X.env)).any (·.1) = false := by rfl) :
    PE X (.Call (.Name "len" p) (e :: es) [] pos) (tE (sta X h) W Γ (dCall fLen mas) n) := e_blt call_len_seq cd_len hg hm bt_len ha (by decide) (by decide) hs hpl
theorem e_int' (hm : X.mg "int" = none) (ha : PA X (e :: es) (tA (sta X h) W Γ mas)) (hg : Gl X "int" := by rfl) (hs : starEach (e :: es) X.env = (false, eval e X.env) :: starEach es X.env := by rfl) (hpl : (backTo pos (starEach es X.env)).any (·.1) = false := by rfl) :
    PE X (.Call (.Name "int" p) (e :: es) [] pos) (tE (sta X h) W Γ (dCall fInt mas) n) := e_ty call_int1 cd_int hg hm bt_int ha (by decide) (by decide) hs hpl
theorem e_max2 (hm : X.mg "max" = none) (ha : PA X (e :: es) (tA (sta X h) W Γ mas)) (hc : X.calm = true := by rfl) (hg : Gl X "max" := by rfl) (hs : starEach (e :: es) X.env = (false, eval e X.env) :: starEach es X.env := by rfl) (hpl : (backTo pos (starEach es X.env)).any (·.1) = false := by rfl) :
    PE X (.Call (.Name "max" p) (e :: es) [] pos) (tE (sta X h) W Γ (dCall fMax2 mas) n) := e_blt (call_max2 hc) cd_max2 hg hm bt_max ha (by decide) (by decide) hs hpl
theorem e_min2 (hm : X.mg "min" = none) (ha : PA X (e :: es) (tA (sta X h) W Γ mas)) (hc : X.calm = true := by rfl) (hg : Gl X "min" := by rfl) (hs : starEach (e :: es) X.env = (false, eval e X.env) :: starEach es X.env := by rfl) (hpl : (backTo pos (starEach es X.env)).any (·.1) = false := by rfl) :
    PE X (.Call (.Name "min" p) (e :: es) [] pos) (tE (sta X h) W Γ (dCall fMin2 mas) n) := e_blt (call_min2 hc) cd_min2 hg hm bt_min ha (by decide) (by decide) hs hpl
theorem e_max (hm : X.mg "max" = none) (ha : PA X (e :: es) (tA (sta X h) W Γ mas)) (hc : X.calm = true := by rfl) (hg : Gl X "max" := by rfl) (hs : starEach (e :: es) X.env = (false, eval e X.env) :: starEach es X.env := by rfl) (hpl : (backTo pos (starEach es X.env)).any (·.1) = false := by rfl) :
    PE X (.Call (.Name "max" p) (e :: es) [] pos) (tE (sta X h) W Γ (dCall fMax mas) n) := e_blt (cr_max hc) cd_max hg hm bt_max ha (by decide) (by decide) hs hpl
theorem e_min (hm : X.mg "min" = none) (ha : PA X (e :: es) (tA (sta X h) W Γ mas)) (hc : X.calm = true := by rfl) (hg : Gl X "min" := by rfl) (hs : starEach (e :: es) X.env = (false, eval e X.env) :: starEach es X.env := by rfl) (hpl : (backTo pos (starEach es X.env)).any (·.1) = false := by rfl) :
    PE X (.Call (.Name "min" p) (e :: es) [] pos) (tE (sta X h) W Γ (dCall fMin mas) n) := e_blt (cr_min hc) cd_min hg hm bt_min ha (by decide) (by decide) hs hpl
theorem e_sum (hm : X.mg "sum" = none) (ha : PA X (e :: es) (tA (sta X h) W Γ mas)) (hc : X.calm = true := by rfl) (hg : Gl X "sum" := by rfl) (hs : starEach (e :: es) X.env = (false, eval e X.env) :: starEach es X.env := by rfl) (hpl : (backTo pos (starEach es X.env)).any (·.1) = false := by rfl) :
    PE X (.Call (.Name "sum" p) (e :: es) [] pos) (tE (sta X h) W Γ (dCall fSum mas) n) := e_blt (cr_sum hc) cd_sum hg hm bt_sum ha (by decide) (by decide) hs hpl
theorem e_list (hm : X.mg "list" = none) (ha : PA X (e :: es) (tA (sta X h) W Γ mas)) (hg : Gl X "list" := by rfl) (hs : starEach (e :: es) X.env = (false, eval e X.env) :: starEach es X.env := by rfl) (hpl : (backTo pos (starEach es X.env)).any (·.1) = false := by rfl) :
    PE X (.Call (.Name "list" p) (e :: es) [] pos) (tE (sta X h) W Γ (dCall fList mas) 1) := e_ty call_list_of cd_list hg hm bt_list ha (by decide) (by decide) hs hpl
theorem e_tuple (hm : X.mg "tuple" = none) (ha : PA X (e :: es) (tA (sta X h) W Γ mas)) (hg : Gl X "tuple" := by rfl) (hs : starEach (e :: es) X.env = (false, eval e X.env) :: starEach es X.env := by rfl) (hpl : (backTo pos (starEach es X.env)).any (·.1) = false := by rfl) :
    PE X (.Call (.Name "tuple" p) (e :: es) [] pos) (tE (sta X h) W Γ (dCall fTuple mas) n) := e_ty call_tuple_of cd_tuple hg hm bt_tuple ha (by decide) (by decide) hs hpl
theorem e_ix (ha : PE X a (tE (sta X h) W Γ ma na)) (hb : PE X b (tE (sta X h) W Γ mb nb)) (hs : PlainIx b := by intro _ _; rfl) : PE X (.Subscript a b pos) (tE (sta X h) W Γ (dOp2 opIx ma mb) 0) := impE (pe_ix ix_seq ha hb hs) fun σ H Q w => op2_of od_ix w
/-! ### isinstance of a built-in type -/
theorem isTy_kit {K : PySem.W.Frag} {T : String} {d : D} {bb : Bool} {H : Hp} {v : V} {S : Sta} (hK : S.K = K) (r : Rep S H d v) (e : isTy T d = some bb) : ∃ t, TyX K H v t ∧ PySem.W.kitOne K t (.type T) = some bb := by
  have g : ∀ {A : String}, kitB A T = some bb → PySem.W.kitOne K (.type A) (.type T) = some bb := fun h => kit_ty h
  have sq : ∀ {a : Addr} {us : List V}, SqT K H a us → ∃ t, TyX K H (.ref a) t ∧ t = .type "tuple" := fun {a us} hh => by
    rcases hh with (e | ⟨o, e⟩) | ⟨o, its, m, e, c, _⟩
    · exact ⟨_, .base (.tup e), rfl⟩
    · exact ⟨_, .fTuple e, rfl⟩
    · exact ⟨_, .kTuple e c, rfl⟩
  cases d with
  | non =>
    unfold Rep at r
    subst r
    refine ⟨_, .base .non, g ?_⟩
    dsimp only [isTy] at e
    split at e
    · rename_i hT
      cases e
      rcases hT with rfl | rfl | rfl | rfl | rfl <;> decide +kernel
    · cases e
  | bl x =>
    unfold Rep at r
    subst r
    refine ⟨_, .base (.bl x), g ?_⟩
    dsimp only [isTy] at e
    split at e
    · rename_i hT
      cases e
      rcases hT with rfl | rfl <;> decide +kernel
    · split at e
      · rename_i hT
        cases e
        rcases hT with rfl | rfl | rfl <;> decide +kernel
      · cases e
  | int x =>
    unfold Rep at r
    subst r
    refine ⟨_, .base (.int x), g ?_⟩
    dsimp only [isTy] at e
    split at e
    · rename_i hT
      cases e
      subst hT
      decide +kernel
    · split at e
      · rename_i hT
        cases e
        rcases hT with rfl | rfl | rfl | rfl <;> decide +kernel
      · cases e
  | str x =>
    unfold Rep at r
    subst r
    refine ⟨_, .base (.str x), g ?_⟩
    dsimp only [isTy] at e
    split at e
    · rename_i hT
      cases e
      subst hT
      decide +kernel
    · split at e
      · rename_i hT
        cases e
        rcases hT with rfl | rfl | rfl | rfl <;> decide +kernel
      · cases e
  | lst xs =>
    unfold Rep at r
    obtain ⟨l, vs, rfl, h2, h3⟩ := r
    have ty : TyX K H (.ref l) (.type "list") := by
      rcases h2 with e | ⟨o, e⟩
      · exact .base (.lst e)
      · exact .base (.frz e)
    refine ⟨_, ty, g ?_⟩
    dsimp only [isTy] at e
    split at e
    · rename_i hT
      cases e
      subst hT
      decide +kernel
    · split at e
      · rename_i hT
        cases e
        rcases hT with rfl | rfl | rfl | rfl <;> decide +kernel
      · cases e
  | tup xs =>
    unfold Rep at r
    obtain ⟨l, vs, rfl, h2, h3⟩ := r
    rw [hK] at h2
    obtain ⟨t, ty, rfl⟩ := sq h2
    refine ⟨_, ty, g ?_⟩
    dsimp only [isTy] at e
    split at e
    · rename_i hT
      cases e
      subst hT
      decide +kernel
    · split at e
      · rename_i hT
        cases e
        rcases hT with rfl | rfl | rfl | rfl <;> decide +kernel
      · cases e
  | byt x => cases e
  | ins x y => cases e
theorem e_isTy {T : String} {x : Str} {p2 : Pos} (hm : X.mg "isinstance" = none) (hmT : X.mg x = none) (hv : bootBuiltins x = some (.type T)) (ha : PE X a (tE (sta X h) W Γ ma na)) (hg : Gl X "isinstance" := by rfl) (hgT : Gl X x := by rfl)
    (hn : x ≠ "__name__" := by decide) (hd : (x == ("__debug__" : Str)) = false := by decide)
    (hs : starEach [a, .Name x p2] X.env = (false, eval a X.env) :: starEach [.Name x p2] X.env := by rfl) (hs2 : starEach [.Name x p2] X.env = (false, eval (.Name x p2) X.env) :: starEach [] X.env := by rfl) (hpl : (backTo pos (starEach [.Name x p2] X.env)).any (·.1) = false := by rfl) :
    PE X (.Call (.Name "isinstance" p) [a, .Name x p2] [] pos) (tE (sta X h) W Γ (dOp1 (opIsTy T) ma) n) :=
  impE (pe_callB call_isi hg hm bt_isi (pa_cons ha (pa_cons (pe_bltn (v := .ty T) hgT hmT hv rfl hn hd) pa_nil hs2) hs) (by decide) (by decide) hs hpl) fun σ H Q w => by
    obtain ⟨H0, G0, Hs, F, η, ok, p⟩ := w
    refine tE.use ok ((Post.bind p).imp fun d pd v H' Hs' st rd ok' => ?_)
    unfold opIsTy at pd
    split at pd
    · rename_i bb e
      obtain ⟨t, ty, kk⟩ := isTy_kit (K := X.K) rfl (rd.same ok'.sub) e
      exact ⟨v, .ty T, t, .type T, bb, rfl, .ty T, ty, kk, pd _ H' Hs' [] st (Own.scal rfl rep_bl)⟩
    · exact pd.elim
/-! ### what is owned is looked at -/
theorem own_at {S : Sta} {H0 G0 H Hs : Hp} {F : Nat → List Addr} {σ : L2.St} {η : Env} {m : Nat} {xs : List D} (ok : EOk S H0 G0 H Hs Γ F σ η) (hg : Γ.getD k 0 = m + 1) (e : η[k]? = some (some (.lst xs))) : ∃ (l : Addr) (vs : List V) (G : List Addr), σ[k]? = some (some (.ref l)) ∧ F k = l :: G ∧ H l = some (.lst vs) ∧ Owns S H Hs xs m vs G := by
  obtain ⟨v, h1, h2⟩ := ok.slot k _ e
  rw [hg] at h2
  obtain ⟨l, vs, G, rfl, h3, h4, h5⟩ := Own.succ.mp h2
  exact ⟨l, vs, G, h1, h3, h4, h5⟩
def lenAt (k : Nat) : M D := fun η => (lstAt η k).bind fun xs => .ok (.int xs.length)
theorem lstAt_ok {S : Sta} {σ : L2.St} {H : Hp} {η : Env} {k' : List D → Prop} (p : Post S W σ H (lstAt η k) k') : ∃ xs, η[k]? = some (some (.lst xs)) ∧ k' xs := by
  unfold lstAt at p
  split at p
  · rename_i xs e
    exact ⟨xs, e, p⟩
  · exact p.elim
theorem e_lenO {x : Str} {p2 : Pos} (k : Nat) {m : Nat} (hm : X.mg "len" = none) (hG : Γ.getD k 0 = m + 1 := by rfl) (hN : X.N[k]? = some x := by rfl) (hv : Vis X.env.scope x := by first | exact Or.inl rfl | exact Or.inr (Or.inl rfl) | exact Or.inr (Or.inr rfl)) (hd : (x == ("__debug__" : Str)) = false := by decide)
    (hcd : (x == ("__classdict__" : Str)) = false := by decide) (hg : Gl X "len" := by rfl) (hs : starEach [.Name x p2] X.env = (false, eval (.Name x p2) X.env) :: starEach [] X.env := by rfl) (hpl : (backTo pos (starEach [] X.env)).any (·.1) = false := by rfl) :
    PE X (.Call (.Name "len" p) [.Name x p2] [] pos) (tE (sta X h) W Γ (lenAt k) n) :=
  impE (pe_callB call_len_seq hg hm bt_len (pa_cons (pe_var hN hv hd hcd) pa_nil hs) (by decide) (by decide) hs hpl) fun σ H Q w => by
    obtain ⟨H0, G0, Hs, F, η, ok, p⟩ := w
    obtain ⟨xs, e, px⟩ := lstAt_ok (Post.bind p)
    obtain ⟨l, vs, G, h1, h2, h3, h4⟩ := own_at ok hG e
    exact ⟨.ref l, h1, l, vs, rfl, .inl (SqL.of h3), by rw [h4.length]; exact px _ H Hs [] (Step.refl ok.sub) (Own.scal rfl rep_int)⟩
def ixL (xs : List D) : D → Res D
  | .int i => (match atD xs i with | some d => .ok d | none => .stuck)
  | _ => .stuck
def ixAt (k : Nat) (b : M D) : M D := fun η => (lstAt η k).bind fun xs => (b η).bind fun y => ixL xs y
theorem e_ixO {x : Str} {p2 : Pos} (k : Nat) (hb : PE X b (tE (sta X h) W Γ mb nb)) (hG : Γ.getD k 0 = 1 := by rfl) (hN : X.N[k]? = some x := by rfl) (hv : Vis X.env.scope x := by first | exact Or.inl rfl | exact Or.inr (Or.inl rfl) | exact Or.inr (Or.inr rfl)) (hd : (x == ("__debug__" : Str)) = false := by decide)
    (hcd : (x == ("__classdict__" : Str)) = false := by decide) (hs : PlainIx b := by intro _ _; rfl) : PE X (.Subscript (.Name x p2) b pos) (tE (sta X h) W Γ (ixAt k mb) 0) := impE (pe_ix ix_list (pe_var hN hv hd hcd) hb hs) fun σ H Q w => by
  obtain ⟨H0, G0, Hs, F, η, ok, p⟩ := w
  obtain ⟨xs, e, px⟩ := lstAt_ok (Post.bind p)
  obtain ⟨l, vs, G, h1, h2, h3, h4⟩ := own_at ok hG e
  refine ⟨.ref l, h1, tE.use ok ((Post.bind px).imp fun y py u H' Hs' st ru ok' => ?_)⟩
  unfold ixL at py
  split at py
  · rename_i i
    split at py
    · rename_i d e2
      unfold Rep at ru
      obtain ⟨-, r4⟩ := h4.reps
      obtain ⟨v, e1, e3⟩ := atD_get (r4.same st.shr) e2
      exact ⟨l, vs, i, v, rfl, ru, SqL.of (st.all _ _ h3), e1, py v H' Hs' [] st e3.own⟩
    · exact py.elim
  · exact py.elim
/-- borrowed: the slots that p does not keep are shared while e runs; e's value is none, a bool, an int, a text -/
def keepG (Γ : List Nat) (p : Nat → Bool) : List Nat := (List.range Γ.length).map fun i => if p i then Γ.getD i 0 else 0
def scalD : D → Bool
  | .non => true
  | .bl _ => true
  | .int _ => true
  | .str _ => true
  | _ => false
def scalM (m : M D) : M D := fun η => (m η).bind fun d => if scalD d then .ok d else .stuck
theorem scal_rep {S : Sta} {H H' : Hp} {d : D} {v : V} (hd : scalD d = true) (r : Rep S H d v) : Rep S H' d v := by
  cases d <;> first | (simp [scalD] at hd; done) | (unfold Rep at r ⊢; exact r)
theorem e_bor (p : Nat → Bool) (ha : PE X e (tE (sta X h) W (keepG Γ p) ma na)) : PE X e (tE (sta X h) W Γ (scalM ma) n) := impE ha fun σ H Q w => by
  obtain ⟨H0, G0, Hs, F, η, ok, pp⟩ := w
  obtain ⟨Hs1, F1, ok1, sm, _⟩ := ok.froz p
  refine tE.use (n := na) ok1 ((Post.bind pp).imp fun d pd v H' Hs' st rd ok' => ?_)
  split at pd
  · rename_i hd
    exact pd v H' Hs [] ⟨st.all, Same.refl _, ok.sub.trans st.all, fun a h1 _ => h1, fun _ z => absurd z List.not_mem_nil, List.nodup_nil⟩ (Own.scal (by cases d <;> first | rfl | (simp [scalD] at hd)) (scal_rep hd rd))
  · exact pd.elim
theorem q_bor (p : Nat → Bool) (ha : PT X e (tQ (sta X h) W (keepG Γ p) qa)) : PT X e (tQ (sta X h) W Γ qa) := impT ha fun σ H Q w => by
  obtain ⟨H0, G0, Hs, F, η, ok, pp⟩ := w
  obtain ⟨Hs1, F1, ok1, sm, _⟩ := ok.froz p
  exact tQ.use ok1 (pp.imp fun b pd H' Hs' st ok' => pd H' Hs ⟨st.all, Same.refl _, ok.sub.trans st.all, fun a h1 _ => h1, fun _ z => absurd z List.not_mem_nil, List.nodup_nil⟩)
/-! ### slices -/
theorem p_none : PO X none (tP (sta X h) W Γ oNone) := impO po_none fun σ H Q w => by
  obtain ⟨H0, G0, Hs, F, η, ok, p⟩ := w
  exact p H Hs (Step.refl ok.sub)
theorem p_some (ha : PE X e (tE (sta X h) W Γ ma na)) : PO X (some e) (tP (sta X h) W Γ (oSome ma)) := impO (po_some ha) fun σ H Q w => by
  obtain ⟨H0, G0, Hs, F, η, ok, p⟩ := w
  refine tE.use ok ((Post.bind p).imp fun d pd v H' Hs' st rd ok' => ?_)
  unfold toI at pd
  split at pd
  · rename_i i
    unfold Rep at rd
    exact ⟨i, rd, pd H' Hs' st⟩
  · exact pd.elim
def opSlL (x : D) (lo hi : Option Int) : Res D := match x with
  | .lst xs => .ok (.lst (cutD xs lo hi))
  | _ => .stuck
def dSlL (a : M D) (lo hi : M (Option Int)) : M D := fun η => (a η).bind fun x => (lo η).bind fun l => (hi η).bind fun h => opSlL x l h
theorem slIx_eq (n d : Nat) (o : Option Int) : slIx n d o = HT.sIx n d o := by cases o <;> rfl
theorem cut_reps {S : Sta} {H : Hp} {ds : List D} {vs : List V} (r : Reps S H ds vs) (lo hi : Option Int) : Reps S H (cutD ds lo hi) (cutV vs lo hi) := by
  unfold cutD cutV
  rw [slIx_eq, slIx_eq, r.length]
  exact (r.drop _).take _
theorem e_slL {lo hi : Option Expr} {p2 : Pos} {ml mh : M (Option Int)} (ha : PE X a (tE (sta X h) W Γ ma na)) (hl : PO X lo (tP (sta X h) W Γ ml)) (hh : PO X hi (tP (sta X h) W Γ mh)) : PE X (.Subscript a (.Slice lo hi none p2) pos) (tE (sta X h) W Γ (dSlL ma ml mh) 1) :=
  impE (pe_slice sl_list ha hl hh) fun σ H Q w => by
    obtain ⟨H0, G0, Hs, F, η, ok, p⟩ := w
    refine tE.use ok ((Post.bind p).imp fun d pd v H1 Hs1 st1 rd ok1 => ?_)
    refine tP.use ok1 (((Post.bind pd).up st1.all).imp fun l pl H2 Hs2 st2 ok2 => ?_)
    refine tP.use ok2 (((Post.bind pl).up (st1.all.trans st2.all)).imp fun u pu H3 Hs3 st3 ok3 => ?_)
    unfold opSlL at pu
    split at pu
    · rename_i ds
      unfold Rep at rd
      obtain ⟨a, vs, rfl, r1, r2⟩ := rd
      have st := (st1.trans st2).trans st3
      have r2' := r2.same (st2.trans st3).shr
      refine ⟨a, vs, rfl, .inl (rd_sub ((st2.trans st3).shr.trans ok3.sub) r1), fun q hq => ?_⟩
      exact pu _ _ _ _ (st.trans (Step.newO ok3.sub hq)) (own_new hq (cut_reps r2' l u))
    · exact pu.elim
def opSlT (x : D) (lo hi : Option Int) : Res D := match x with
  | .tup xs => if slIx xs.length 0 lo = 0 ∧ slIx xs.length xs.length hi = xs.length then .stuck else .ok (.tup (cutD xs lo hi))
  | _ => .stuck
def dSlT (a : M D) (lo hi : M (Option Int)) : M D := fun η => (a η).bind fun x => (lo η).bind fun l => (hi η).bind fun h => opSlT x l h
theorem e_slT {lo hi : Option Expr} {p2 : Pos} {ml mh : M (Option Int)} (ha : PE X a (tE (sta X h) W Γ ma na)) (hl : PO X lo (tP (sta X h) W Γ ml)) (hh : PO X hi (tP (sta X h) W Γ mh)) : PE X (.Subscript a (.Slice lo hi none p2) pos) (tE (sta X h) W Γ (dSlT ma ml mh) n) :=
  impE (pe_slice sl_tup ha hl hh) fun σ H Q w => by
    obtain ⟨H0, G0, Hs, F, η, ok, p⟩ := w
    refine tE.use ok ((Post.bind p).imp fun d pd v H1 Hs1 st1 rd ok1 => ?_)
    refine tP.use ok1 (((Post.bind pd).up st1.all).imp fun l pl H2 Hs2 st2 ok2 => ?_)
    refine tP.use ok2 (((Post.bind pl).up (st1.all.trans st2.all)).imp fun u pu H3 Hs3 st3 ok3 => ?_)
    unfold opSlT at pu
    split at pu
    · rename_i ds
      split at pu
      · exact pu.elim
      · rename_i hw
        unfold Rep at rd
        obtain ⟨a, vs, rfl, r1, r2⟩ := rd
        have st := (st1.trans st2).trans st3
        have r2' := r2.same (st2.trans st3).shr
        refine ⟨a, vs, rfl, sqt_sub ((st2.trans st3).shr.trans ok3.sub) r1, ?_, fun q hq => ?_⟩
        · rw [← slIx_eq, ← slIx_eq, r2.length]; exact hw
        · exact pu _ _ _ [] (st.trans (Step.newS ok3.sub hq)) (Own.scal rfl (rep_newT ok3.sub hq (cut_reps r2' l u)))
    · exact pu.elim
end
end VL
/-! VLExpr4: defs called; what is walked, what is bound, comprehensions. -/
namespace VL
open PySem PySem.Spec L2
/-! ### defs -/
/-- the def's promise: it does what f says; its result is new to the depth n -/
def spF (S : Sta) (ar : Nat) (f : List D → Res D) (n : Nat) : Sp := fun vs H Q E => ∃ (ds : List D) (Hs : Hp), ds.length = ar ∧ Same Hs H ∧ Reps S Hs ds vs ∧
  Post S (fun cls d _ H' => E cls d H') [] H (f ds) fun d => ∀ (v : V) (H' Hs' : Hp) (Fr : List Addr), Step H Hs H' Hs' Fr → Own S H' Hs' d n v Fr → Q v H'
structure FnS (P : Program) (w : World) (K : PySem.W.Frag) (mg : Str → Option Value) (base : Heap) (x : Str) (k ar : Nat) (f : List D → Res D) (n : Nat) (dfl : List D) : Prop where
  ex : ∃ (fA : Addr) (fd : FuncData) (ps : List Str) (ds : List Value) (dvs : List V), mg x = some (.ref fA) ∧ PySem.W.keepIn K (.ref fA) = true ∧
    FnOk P w K mg base (L2.CX P w) k fA fd ps (spF ⟨K, mg, none⟩ ar f n) ∧ Vals dvs ds ∧ (∀ H, Reps ⟨K, mg, none⟩ H dfl dvs) ∧ Binds K fd ps ds
section
variable {X : Cx} {W : WX} {Γ : List Nat} {e : Expr} {es : List Expr} {mas : M (List D)} {n k ar : Nat} {pos p : Pos} {x : Str} {f : List D → Res D} {dfl : List D}
theorem post_swap {α : Type} {S : Sta} {W W' : WX} {σ σ' : L2.St} {H H1 : Hp} {r : Res α} {k k' : α → Prop} (h : Post S W σ H r k) (s : Same H H1) (e : ∀ cls d H', W cls d σ H' → W' cls d σ' H') (i : ∀ a, k a → k' a) : Post S W' σ' H1 r k' := by
  cases r with
  | ok a => exact i a h
  | exc er => exact fun cls d H' c s' => e cls d H' (h cls d H' c (s.trans s'))
  | stuck => exact h
theorem run_S {CX : CXT} {fA : Addr} {fd : FuncData} {ps : List Str} {sp : Sp} {E : L2.St → XK} {dvs : List V} {ds : List Value} {pins : List (Addr × Obj)} {σ : L2.St} {H : Hp} {s : Shared} {Q : VK} {us : List Value} {vs : List V} (F : FnOk X.prog X.w X.K X.mg X.base CX k fA fd ps sp) (hr : Room k X.A) (hb : Binds X.K fd ps ds) (hd : Vals dvs ds) (hx : PassesAt CX X σ (E σ))
    (I : Inv X pins σ H s) (r : Vals vs us) (h : sp (vs ++ dvs) H Q (E σ)) : wpAny (model X.prog X.w) X.A (call (.ref fA) us) (EP X pins σ Q) X.xe s := by
  have r2 : Vals (vs ++ dvs) (us ++ ds) := r.append hd
  have hl : (us ++ ds).length = ps.length := by rw [← r2.length]; exact F.len _ _ _ _ h
  refine wpAny_call (codeAny_mono (F.run X.A X.stack s H ⟨us, []⟩ (us ++ ds) (vs ++ dvs) Q (E σ) hr I.env0 (hb s us I.kIn hl) r2 h) fun r s' hq => ?_)
  cases r with
  | error e => exact hx pins H s e s' I hq
  | ok fl =>
    cases fl with
    | ret u => exact I.after hq
    | next => exact False.elim hq
    | brk => exact False.elim hq
    | cont => exact False.elim hq
theorem e_call {h : Option (Nat × Addr × Er)} (F : FnS X.prog X.w X.K X.mg X.base x k ar f n dfl) (hr : Room k X.A) (tk : Takes X W) (ha : PA X (e :: es) (tA (sta X h) W Γ mas)) (hlen : es.length + 1 + dfl.length = ar := by rfl) (hml : ∀ η ds, mas η = .ok ds → ds.length = es.length + 1) (hg : Gl X x := by rfl) (hdb : (x == ("__debug__" : Str)) = false := by decide)
    (he : starEach (e :: es) X.env = (false, eval e X.env) :: starEach es X.env := by rfl) (hpl : (backTo pos (starEach es X.env)).any (·.1) = false := by rfl) :
    PE X (.Call (.Name x p) (e :: es) [] pos) (tE (sta X h) W Γ (dCall (fun as => f (as ++ dfl)) mas) n) := by
  obtain ⟨fA, fd, ps, ds, dvs, hm, hk, G, hd, hrep, hb⟩ := F.ex
  refine ⟨fun pins s σ H Q I w => ?_⟩
  obtain ⟨H0, G0, Hs, F, η, ok, pp⟩ := w
  refine wpAny_Call_Name_kw (ld_glob I hg hm ?_ hdb)
  have w : tA (sta X h) W Γ mas σ H fun vs H1 => spF ⟨X.K, X.mg, none⟩ ar f n (vs ++ dvs) H1 Q (WE W σ) := by
    cases hη : mas η with
    | ok as =>
      have hl := hml η as hη
      refine tA.use ok ?_
      have pb := Post.bind pp
      rw [hη] at pb ⊢
      refine fun vs H1 Hs1 st1 r1 ok1 => ⟨as ++ dfl, Hs1, by rw [List.length_append, hl]; exact hlen, ok1.sub, (r1.cool).append (hrep _), ?_⟩
      exact post_swap (S := sta X h) pb st1.all (fun cls d H' q => q) fun d kk v H' Hs' Fr st o => kk v H' Hs' Fr (st1.trans st) (o.cool d _ v _)
    | exc er =>
      refine tA.use ok ?_
      have pb := Post.bind pp
      rw [hη] at pb ⊢
      exact pb
    | stuck =>
      have pb := Post.bind pp
      rw [hη] at pb
      exact pb.elim
  refine PySem.W.callWith_K (h₀ := X.base) I.ok.mod.kin hk (thn (ha.run pos pins s σ H _ I w) fun us s1 ⟨vs, H1, I1, r, q⟩ => ⟨I1.kIn, ?_⟩) he hpl
  exact run_S G hr hb hd (passAt tk σ) I1 r q
end
/-- lengths of written argument lists -/
theorem al_nil : ∀ (η : Env) (ds : List D), aNil η = .ok ds → ds.length = 0 := fun η ds h => by cases h; rfl
theorem al_cons {a : M D} {r : M (List D)} {k : Nat} (h : ∀ (η : Env) (ds : List D), r η = .ok ds → ds.length = k) : ∀ (η : Env) (ds : List D), aCons a r η = .ok ds → ds.length = k + 1 := fun η ds e => by
  unfold aCons at e
  cases ha : a η with
  | ok x =>
    rw [ha] at e
    cases hr : r η with
    | ok xs =>
      rw [hr] at e
      cases e
      rw [List.length_cons, h η xs hr]
    | exc er => rw [hr] at e; cases e
    | stuck => rw [hr] at e; cases e
  | exc er => rw [ha] at e; cases e
  | stuck => rw [ha] at e; cases e

/-! ### what is walked -/
def Walks (S : Sta) (Hs : Hp) (J : It) (ds : List D) : Prop := ∀ (i : Nat) (H' Hs' : Hp), Same Hs Hs' → Same Hs' H' →
  (∀ d, ds[i]? = some d → J.go i H' ∧ ∀ x H'', J.yld i H' x H'' → ∃ Hs'', Step H' Hs' H'' Hs'' [] ∧ Rep S Hs'' d x) ∧ (ds[i]? = none → J.stop i H')
def tI (S : Sta) (W : WX) (Γ : List Nat) (m : M (List D)) : TI := fun σ H R => ∃ (H0 G0 Hs : Hp) (F : Nat → List Addr) (η : Env), EOk S H0 G0 H Hs Γ F σ η ∧
  Post S W σ H (m η) fun ds => ∀ (J : It) (H' Hs' : Hp), Step H Hs H' Hs' [] → Walks S Hs' J ds → R J H'
section
variable {X : Cx} {W : WX} {Γ : List Nat} {h : Option (Nat × Addr × Er)} {a b tg : Expr} {ma mb : M D} {na nb : Nat} {pos p : Pos}
theorem orI {l : Expr} {w1 w2 : TI} (h1 : PI X tg l w1) (h2 : PI X tg l w2) : PI X tg l (fun σ H R => w1 σ H R ∨ w2 σ H R) := ⟨fun pins s σ H R I h => by
  rcases h with h | h
  · exact h1.run pins s σ H R I h
  · exact h2.run pins s σ H R I h⟩
theorem impI {l : Expr} {t t' : TI} (h : PI X tg l t) (i : ∀ σ H R, t' σ H R → t σ H R) : PI X tg l t' := ⟨fun pins s σ H R I w => h.run pins s σ H R I (i σ H R w)⟩
theorem walks_list {S : Sta} {Hs : Hp} {l : Addr} {vs : List V} {ds : List D} (hl : Rd Hs l (.lst vs)) (r : Reps S Hs ds vs) : Walks S Hs (Itl S.K l) ds := fun i H' Hs' s1 s2 => by
  have q : SqL S.K H' l vs := .inl (rd_sub (s1.trans s2) hl)
  refine ⟨fun d hd => ?_, fun hn => ⟨vs, q, by rw [r.length]; exact List.getElem?_eq_none_iff.mp hn⟩⟩
  obtain ⟨v, h1, h2⟩ := r.get hd
  refine ⟨⟨vs, v, q, h1⟩, fun x H'' y => ?_⟩
  obtain ⟨rfl, y⟩ := y
  have e := y vs q
  rw [h1] at e
  cases e
  exact ⟨Hs', Step.refl s2, h2.same s1⟩
theorem walks_tup {S : Sta} {Hs : Hp} {l : Addr} {vs : List V} {ds : List D} (hl : SqT S.K Hs l vs) (r : Reps S Hs ds vs) : Walks S Hs (Itt S.K l) ds := fun i H' Hs' s1 s2 => by
  have q : SqT S.K H' l vs := sqt_sub (s1.trans s2) hl
  refine ⟨fun d hd => ?_, fun hn => ⟨vs, q, by rw [r.length]; exact List.getElem?_eq_none_iff.mp hn⟩⟩
  obtain ⟨v, h1, h2⟩ := r.get hd
  refine ⟨⟨vs, v, q, h1⟩, fun x H'' y => ?_⟩
  obtain ⟨rfl, y⟩ := y
  have e := y vs q
  rw [h1] at e
  cases e
  exact ⟨Hs', Step.refl s2, h2.same s1⟩
theorem walks_range {S : Sta} {Hs : Hp} {lo : Int} {n : Nat} : Walks S Hs (Itr lo n) (rangeD lo n) := fun i H' Hs' s1 s2 => by
  have e : (rangeD lo n)[i]? = if i < n then some (D.int (lo + (i : Int))) else none := by
    unfold rangeD
    by_cases hi : i < n
    · rw [if_pos hi]; simp [hi]
    · rw [if_neg hi]; simp; omega
  refine ⟨fun d hd => ?_, fun hn => ?_⟩
  · rw [e] at hd
    by_cases hi : i < n
    · rw [if_pos hi] at hd
      cases hd
      refine ⟨hi, fun x H'' y => ?_⟩
      obtain ⟨rfl, rfl⟩ := y
      exact ⟨Hs', Step.refl s2, rep_int⟩
    · rw [if_neg hi] at hd; cases hd
  · rw [e] at hn
    by_cases hi : i < n
    · rw [if_pos hi] at hn; cases hn
    · exact Nat.le_of_not_lt hi
theorem i_seq (ha : PE X a (tE (sta X h) W Γ ma na)) : PI X tg a (tI (sta X h) W Γ (iSeq ma)) := impI (orI (pi_list ha) (pi_tup ha)) fun σ H R w => by
  obtain ⟨H0, G0, Hs, F, η, ok, p⟩ := w
  have pb := Post.bind p
  cases hη : ma η with
  | ok d =>
    rw [hη] at pb
    have pb' : Post (sta X h) W σ H (items d) _ := pb
    unfold items at pb'
    split at pb'
    · rename_i ds
      refine .inl (tE.use ok ?_)
      rw [hη]
      refine fun v H' Hs' st rd ok' => ?_
      unfold Rep at rd
      obtain ⟨l, vs, rfl, r1, r2⟩ := rd
      exact ⟨l, rfl, ⟨vs, .inl (rd_sub ok'.sub r1)⟩, pb' (Itl X.K l) H' Hs' st (walks_list r1 r2)⟩
    · rename_i ds
      refine .inr (tE.use ok ?_)
      rw [hη]
      refine fun v H' Hs' st rd ok' => ?_
      unfold Rep at rd
      obtain ⟨l, vs, rfl, r1, r2⟩ := rd
      exact ⟨l, rfl, ⟨vs, sqt_sub ok'.sub r1⟩, pb' (Itt X.K l) H' Hs' st (walks_tup r1 r2)⟩
    · exact pb'.elim
  | exc er =>
    rw [hη] at pb
    refine .inl (tE.use ok ?_)
    rw [hη]
    exact pb
  | stuck =>
    rw [hη] at pb
    exact pb.elim
theorem lim_eq : lim62 = 2 ^ 62 := by decide
theorem i_range1 (hm : X.mg "range" = none) (ha : PE X a (tE (sta X h) W Γ ma na)) (hg : Gl X "range" := by rfl) (hs : starEach [a] X.env = [(false, eval a X.env)] := by rfl) : PI X tg (.Call (.Name "range" p) [a] [] pos) (tI (sta X h) W Γ (iRange1 ma)) := impI (pi_range1 hg hm (pa_cons ha pa_nil hs) hs) fun σ H R w => by
  obtain ⟨H0, G0, Hs, F, η, ok, p⟩ := w
  refine tE.use ok ((Post.bind p).imp fun d pd v H' Hs' st rd ok' => ?_)
  cases d <;> first | exact pd.elim | skip
  rename_i j
  have pd' : Post (sta X h) W σ H (if -lim62 ≤ j ∧ j < lim62 then Res.ok (rangeD 0 j.toNat) else .stuck) _ := pd
  split at pd'
  · rename_i hj
    unfold Rep at rd
    rw [lim_eq] at hj
    exact ⟨j, by rw [rd], hj.1, hj.2, pd' _ H' Hs' st walks_range⟩
  · exact pd'.elim
theorem i_range2 (hm : X.mg "range" = none) (ha : PE X a (tE (sta X h) W Γ ma na)) (hb : PE X b (tE (sta X h) W Γ mb nb)) (hg : Gl X "range" := by rfl) (hs : starEach [a, b] X.env = [(false, eval a X.env), (false, eval b X.env)] := by rfl) (hs2 : starEach [b] X.env = [(false, eval b X.env)] := by rfl) :
    PI X tg (.Call (.Name "range" p) [a, b] [] pos) (tI (sta X h) W Γ (iRange2 ma mb)) := impI (pi_range2 hg hm (pa_cons ha (pa_cons hb pa_nil hs2) (by rw [hs, hs2])) hs hs2) fun σ H R w => by
  obtain ⟨H0, G0, Hs, F, η, ok, p⟩ := w
  refine tE.use ok ((Post.bind p).imp fun d pd v H1 Hs1 st1 rd ok1 => ?_)
  refine tE.use ok1 (((Post.bind pd).up st1.all).imp fun e pe u H2 Hs2 st2 re ok2 => ?_)
  cases d <;> first | exact pe.elim | skip
  cases e <;> first | exact pe.elim | skip
  rename_i i j
  have pd' : Post (sta X h) W σ H (if (-lim62 ≤ i ∧ i < lim62) ∧ (-lim62 ≤ j ∧ j < lim62) then Res.ok (rangeD i (j - i).toNat) else .stuck) _ := pe
  split at pd'
  · rename_i hj
    unfold Rep at rd re
    rw [lim_eq] at hj
    exact ⟨i, j, by rw [rd, re], ⟨hj.1.1, hj.1.2, hj.2.1, hj.2.2⟩, pd' _ H2 Hs2 (st1.trans st2) walks_range⟩
  · exact pd'.elim
theorem walks_rev {S : Sta} {Hs : Hp} {l : Addr} {vs : List V} {ds : List D} (hl : Rd Hs l (.lst vs)) (r : Reps S Hs ds vs) : Walks S Hs (Itv S.K l vs.length) ds.reverse := fun i H' Hs' s1 s2 => by
  have q : SqL S.K H' l vs := .inl (rd_sub (s1.trans s2) hl)
  have hlen := r.length
  refine ⟨fun d hd => ?_, fun hn => ?_⟩
  · have hi : i < ds.length := by
      have := (List.getElem?_eq_some_iff.mp hd).1
      simpa using this
    rw [List.getElem?_reverse hi] at hd
    obtain ⟨v, h1, h2⟩ := r.get hd
    rw [← hlen] at h1
    refine ⟨⟨by omega, vs, v, q, h1⟩, fun x H'' y => ?_⟩
    obtain ⟨rfl, y⟩ := y
    have e := y vs q
    rw [h1] at e
    cases e
    exact ⟨Hs', Step.refl s2, h2.same s1⟩
  · have := List.getElem?_eq_none_iff.mp hn
    show vs.length ≤ i
    rw [hlen]
    simpa using this
theorem i_rev (hm : X.mg "reversed" = none) (ha : PE X a (tE (sta X h) W Γ ma na)) (hg : Gl X "reversed" := by rfl) (hs : starEach [a] X.env = [(false, eval a X.env)] := by rfl) : PI X tg (.Call (.Name "reversed" p) [a] [] pos) (tI (sta X h) W Γ (iRev ma)) := impI (pi_reversed hg hm (pa_cons ha pa_nil hs) hs) fun σ H R w => by
  obtain ⟨H0, G0, Hs, F, η, ok, p⟩ := w
  refine tE.use ok ((Post.bind p).imp fun d pd v H' Hs' st rd ok' => ?_)
  have pb := Post.bind pd
  unfold lstOf at pb
  split at pb
  · rename_i ds
    unfold Rep at rd
    obtain ⟨l, vs, rfl, r1, r2⟩ := rd
    exact ⟨l, vs, rfl, .inl (rd_sub ok'.sub r1), pb _ H' Hs' st (walks_rev r1 r2)⟩
  · exact pb.elim
theorem enumD_get : ∀ (xs : List D) (k i : Nat), (enumD k xs)[i]? = (xs[i]?).map fun x => D.tup [.int ((k + i : Nat) : Int), x]
  | [], k, i => by simp [enumD]
  | x :: xs, k, 0 => by simp [enumD]
  | x :: xs, k, i + 1 => by
    unfold enumD
    rw [List.getElem?_cons_succ, List.getElem?_cons_succ, enumD_get xs (k + 1) i]
    have e : k + 1 + i = k + (i + 1) := by omega
    rw [e]
theorem walks_enum {S : Sta} {Hs : Hp} {l : Addr} {vs : List V} {ds : List D} (hl : Rd Hs l (.lst vs)) (r : Reps S Hs ds vs) : Walks S Hs (Ite S.K l) (enumD 0 ds) := fun i H' Hs' s1 s2 => by
  have q : SqL S.K H' l vs := .inl (rd_sub (s1.trans s2) hl)
  refine ⟨fun d hd => ?_, fun hn => ?_⟩
  · rw [enumD_get] at hd
    obtain ⟨d0, hd0, rfl⟩ := Option.map_eq_some_iff.mp hd
    obtain ⟨v, h1, h2⟩ := r.get hd0
    refine ⟨⟨vs, v, q, h1⟩, fun x H'' y => ?_⟩
    obtain ⟨T, x0, rfl, hT, rfl, y⟩ := y
    have e := y vs q
    rw [h1] at e
    cases e
    rw [Nat.zero_add]
    exact ⟨_, Step.newS s2 hT, rep_newT s2 hT (Reps.cons_iff.mpr ⟨_, _, rfl, rep_int, Reps.one (h2.same s1)⟩)⟩
  · rw [enumD_get] at hn
    have e : ds[i]? = none := by
      cases q : ds[i]? with
      | none => rfl
      | some d => rw [q] at hn; cases hn
    exact ⟨vs, q, by rw [r.length]; exact List.getElem?_eq_none_iff.mp e⟩
theorem i_enum {elts : List Expr} {kk : Nat} {tpos : Pos} (hm : X.mg "enumerate" = none) (ha : PE X a (tE (sta X h) W Γ ma na)) (hg : Gl X "enumerate" := by rfl) (hs : starEach [a] X.env = [(false, eval a X.env)] := by rfl) : PI X (.Tuple elts kk tpos) (.Call (.Name "enumerate" p) [a] [] pos) (tI (sta X h) W Γ (iEnum ma)) := impI (pi_enum hg hm (pa_cons ha pa_nil hs) hs) fun σ H R w => by
  obtain ⟨H0, G0, Hs, F, η, ok, p⟩ := w
  refine tE.use ok ((Post.bind p).imp fun d pd v H' Hs' st rd ok' => ?_)
  have pb := Post.bind pd
  unfold lstOf at pb
  split at pb
  · rename_i ds
    unfold Rep at rd
    obtain ⟨l, vs, rfl, r1, r2⟩ := rd
    exact ⟨l, vs, rfl, .inl (rd_sub ok'.sub r1), pb _ H' Hs' st (walks_enum r1 r2)⟩
  · exact pb.elim
theorem zipD_get : ∀ (xs ys : List D) (i : Nat), (zipD xs ys)[i]? = (xs[i]?).bind fun x => (ys[i]?).map fun y => D.tup [x, y]
  | [], ys, i => by simp [zipD]
  | x :: xs, [], i => by cases i <;> simp [zipD]
  | x :: xs, y :: ys, 0 => by simp [zipD]
  | x :: xs, y :: ys, i + 1 => by
    unfold zipD
    rw [List.getElem?_cons_succ, List.getElem?_cons_succ, List.getElem?_cons_succ, zipD_get xs ys i]
theorem walks_zip {S : Sta} {Hs : Hp} {l l2 : Addr} {vs ws : List V} {ds es : List D} (hl : Rd Hs l (.lst vs)) (r : Reps S Hs ds vs) (hl2 : Rd Hs l2 (.lst ws)) (r2 : Reps S Hs es ws) : Walks S Hs (Itz S.K l l2) (zipD ds es) := fun i H' Hs' s1 s2 => by
  have q : SqL S.K H' l vs := .inl (rd_sub (s1.trans s2) hl)
  have q2 : SqL S.K H' l2 ws := .inl (rd_sub (s1.trans s2) hl2)
  refine ⟨fun d hd => ?_, fun hn => ?_⟩
  · rw [zipD_get] at hd
    obtain ⟨d0, hd0, hd⟩ := Option.bind_eq_some_iff.mp hd
    obtain ⟨e0, he0, rfl⟩ := Option.map_eq_some_iff.mp hd
    obtain ⟨v, h1, h2⟩ := r.get hd0
    obtain ⟨u, h3, h4⟩ := r2.get he0
    refine ⟨⟨vs, ws, v, u, q, q2, h1, h3⟩, fun x H'' y => ?_⟩
    obtain ⟨T, x0, y0, rfl, hT, rfl, y1, y2⟩ := y
    have e := y1 vs q
    rw [h1] at e
    cases e
    have e := y2 ws q2
    rw [h3] at e
    cases e
    exact ⟨_, Step.newS s2 hT, rep_newT s2 hT (Reps.cons_iff.mpr ⟨_, _, rfl, h2.same s1, Reps.one (h4.same s1)⟩)⟩
  · rw [zipD_get] at hn
    refine ⟨vs, ws, q, q2, ?_⟩
    rw [r.length, r2.length]
    cases e1 : ds[i]? with
    | none => exact .inl (List.getElem?_eq_none_iff.mp e1)
    | some d =>
      rw [e1] at hn
      have hn' : (es[i]?).map (fun y => D.tup [d, y]) = none := hn
      cases e2 : es[i]? with
      | none => exact .inr (List.getElem?_eq_none_iff.mp e2)
      | some d2 => rw [e2] at hn'; cases hn'
theorem i_zip {elts : List Expr} {kk : Nat} {tpos : Pos} (hm : X.mg "zip" = none) (ha : PE X a (tE (sta X h) W Γ ma na)) (hb : PE X b (tE (sta X h) W Γ mb nb)) (hg : Gl X "zip" := by rfl) (hs : starEach [a, b] X.env = (false, eval a X.env) :: starEach [b] X.env := by rfl) (hs2 : starEach [b] X.env = [(false, eval b X.env)] := by rfl) (hpl : (backTo pos (starEach [b] X.env)).any (·.1) = false := by rfl) :
    PI X (.Tuple elts kk tpos) (.Call (.Name "zip" p) [a, b] [] pos) (tI (sta X h) W Γ (iZip ma mb)) := impI (pi_zip hg hm (pa_cons ha (pa_cons hb pa_nil hs2) hs) hs hpl) fun σ H R w => by
  obtain ⟨H0, G0, Hs, F, η, ok, p⟩ := w
  refine tE.use ok ((Post.bind p).imp fun d pd v H1 Hs1 st1 rd ok1 => ?_)
  refine tE.use ok1 (((Post.bind pd).up st1.all).imp fun e pe u H2 Hs2 st2 re ok2 => ?_)
  have pb := Post.bind pe
  unfold lstOf at pb
  split at pb
  · rename_i ds
    have pc := Post.bind (show Post (sta X h) W σ H ((match e with | .lst xs => Res.ok xs | _ => .stuck).bind fun ys => Res.ok (zipD ds ys)) _ from pb)
    split at pc
    · rename_i es
      have rd' := rd.same st2.shr
      unfold Rep at rd' re
      obtain ⟨l, vs, rfl, r1, r2⟩ := rd'
      obtain ⟨l2, ws, rfl, r3, r4⟩ := re
      exact ⟨l, l2, vs, ws, rfl, .inl (rd_sub ok2.sub r1), .inl (rd_sub ok2.sub r3), pc _ H2 Hs2 (st1.trans st2) (walks_zip r1 r2 r3 r4)⟩
    · exact pc.elim
  · exact pb.elim
end
end VL
/-! VLStmt: what is bound, comprehensions, statements. -/
namespace VL
open PySem PySem.Spec L2
/-! ### slots set -/
theorem Owns.move {S : Sta} {H H' Hs Hs' : Hp} (e : Same Hs Hs') : ∀ (ds : List D) (n : Nat) (vs : List V) (F : List Addr), (∀ a ∈ F, H' a = H a) → Owns S H Hs ds n vs F → Owns S H' Hs' ds n vs F
  | [], n, vs, F, _, h => Owns.nil.mpr (Owns.nil.mp h)
  | d :: ds, n, vs, F, k, h => by
    obtain ⟨v, ws, F1, F2, rfl, rfl, h1, h2⟩ := Owns.cons.mp h
    exact Owns.cons.mpr ⟨v, ws, F1, F2, rfl, rfl, h1.move e d n v F1 (fun a ha => k a (List.mem_append_left _ ha)), Owns.move e ds n ws F2 (fun a ha => k a (List.mem_append_right _ ha)) h2⟩
section
variable {S : Sta} {H0 G0 H H1 Hs Hs1 : Hp} {Γ Γ2 : List Nat} {F : Nat → List Addr} {σ : L2.St} {η : Env} {Fr : List Addr}
theorem EOk.cong (ok : EOk S H0 G0 H Hs Γ F σ η) (e : ∀ i, Γ2.getD i 0 = Γ.getD i 0) : EOk S H0 G0 H Hs Γ2 F σ η :=
  ⟨ok.st, ok.len, fun i d h => by rw [e]; exact ok.slot i d h, ok.hid, ok.disj, ok.nd, ok.hot⟩
theorem getD_set {l : List Nat} {i j n : Nat} : (l.set i n).getD j 0 = if i = j ∧ i < l.length then n else l.getD j 0 := by
  simp only [List.getD_eq_getElem?_getD, List.getElem?_set]
  by_cases e : i = j
  · subst e
    by_cases h : i < l.length
    · simp [h]
    · simp [h]
  · simp [e]
theorem EOk.set {i n : Nat} {d : D} {v : V} (ok : EOk S H0 G0 H Hs Γ F σ η) (hot : S.hot = none) (o : Own S H Hs d n v Fr) (hi : i < Γ.length ∨ (n = 0 ∧ Γ.getD i 0 = 0)) (fr : ∀ a ∈ Fr, Hs a = none ∧ H0 a = none ∧ (∃ o, H a = some o)) (dj : ∀ j a, j ≠ i → a ∈ F j → a ∉ Fr) (nd : Fr.Nodup) :
    EOk S H0 G0 H Hs (Γ.set i n) (fun j => if j = i then Fr else F j) (σ.set i (some v)) (η.set i (some d)) where
  st := ok.st
  len := by rw [List.length_set, List.length_set, ok.len]
  slot := fun j e he => by
    rw [List.getElem?_set] at he ⊢
    rw [getD_set]
    by_cases hj : i = j
    · subst hj
      simp only [if_true] at he ⊢
      have hl : i < η.length := by
        by_cases hl : i < η.length
        · exact hl
        · rw [if_neg hl] at he; cases he
      rw [if_pos hl] at he
      rw [if_pos (by rw [ok.len]; exact hl)]
      have e1 : d = e := by simpa using he
      subst e1
      refine ⟨v, rfl, ?_⟩
      rcases hi with hi | ⟨hi, hg⟩
      · simp only [hi, and_self, if_true]; exact o
      · subst hi
        by_cases hl2 : i < Γ.length
        · simp only [hl2, and_self, if_true]; exact o
        · simp only [hl2, and_false, if_false]; rw [hg]; exact o
    · simp only [hj, if_false, false_and] at he ⊢
      obtain ⟨w, h1, h2⟩ := ok.slot j e he
      refine ⟨w, h1, ?_⟩
      rw [if_neg (Ne.symm hj)]
      exact h2
  hid := fun j a ha => by
    by_cases hj : j = i
    · subst hj
      rw [if_pos rfl] at ha
      exact fr a ha
    · rw [if_neg hj] at ha; exact ok.hid j a ha
  disj := fun j k a h1 h2 => by
    by_cases hj : j = i
    · by_cases hk : k = i
      · rw [hj, hk]
      · rw [if_pos hj] at h1
        rw [if_neg hk] at h2
        exact absurd h1 (dj k a hk h2)
    · by_cases hk : k = i
      · rw [if_neg hj] at h1
        rw [if_pos hk] at h2
        exact absurd h2 (dj j a hj h1)
      · rw [if_neg hj] at h1
        rw [if_neg hk] at h2
        exact ok.disj j k a h1 h2
  nd := fun j => by
    by_cases hj : j = i
    · simp only [hj, if_true]; exact nd
    · simp only [hj, if_false]; exact ok.nd j
  hot := fun j a e h => by rw [hot] at h; cases h
/-- an evaluated value is bound -/
theorem EOk.bind {i n : Nat} {d : D} {v : V} (ok : EOk S H0 G0 H Hs Γ F σ η) (hot : S.hot = none) (st : Step H Hs H1 Hs1 Fr) (o : Own S H1 Hs1 d n v Fr) (hi : i < Γ.length ∨ (n = 0 ∧ Γ.getD i 0 = 0)) :
    EOk S H0 G0 H1 Hs1 (Γ.set i n) (fun j => if j = i then Fr else F j) (σ.set i (some v)) (η.set i (some d)) :=
  (ok.step st).set hot o hi (fun a ha => ⟨(st.fr a ha).2, ok.st.all.free (st.fr a ha).1, o.there d n v Fr a ha⟩) (fun j a _ h1 h2 => by
    obtain ⟨_, _, o, ho⟩ := ok.hid j a h1
    rw [(st.fr a h2).1] at ho
    cases ho) st.nd
theorem EOk.setH {i n : Nat} {d : D} {v : V} (ok : EOk S H0 G0 H Hs Γ F σ η) (hot : ∀ j a e, S.hot = some (j, a, e) → j ≠ i) (o : Own S H Hs d n v Fr) (hi : i < Γ.length ∨ (n = 0 ∧ Γ.getD i 0 = 0)) (fr : ∀ a ∈ Fr, Hs a = none ∧ H0 a = none ∧ (∃ o, H a = some o)) (dj : ∀ j a, j ≠ i → a ∈ F j → a ∉ Fr) (nd : Fr.Nodup) :
    EOk S H0 G0 H Hs (Γ.set i n) (fun j => if j = i then Fr else F j) (σ.set i (some v)) (η.set i (some d)) where
  st := ok.st
  len := by rw [List.length_set, List.length_set, ok.len]
  slot := fun j e he => by
    rw [List.getElem?_set] at he ⊢
    rw [getD_set]
    by_cases hj : i = j
    · subst hj
      simp only [if_true] at he ⊢
      have hl : i < η.length := by
        by_cases hl : i < η.length
        · exact hl
        · rw [if_neg hl] at he; cases he
      rw [if_pos hl] at he
      rw [if_pos (by rw [ok.len]; exact hl)]
      have e1 : d = e := by simpa using he
      subst e1
      refine ⟨v, rfl, ?_⟩
      rcases hi with hi | ⟨hi, hg⟩
      · simp only [hi, and_self, if_true]; exact o
      · subst hi
        by_cases hl2 : i < Γ.length
        · simp only [hl2, and_self, if_true]; exact o
        · simp only [hl2, and_false, if_false]; rw [hg]; exact o
    · simp only [hj, if_false, false_and] at he ⊢
      obtain ⟨w, h1, h2⟩ := ok.slot j e he
      refine ⟨w, h1, ?_⟩
      rw [if_neg (Ne.symm hj)]
      exact h2
  hid := fun j a ha => by
    by_cases hj : j = i
    · subst hj
      rw [if_pos rfl] at ha
      exact fr a ha
    · rw [if_neg hj] at ha; exact ok.hid j a ha
  disj := fun j k a h1 h2 => by
    by_cases hj : j = i
    · by_cases hk : k = i
      · rw [hj, hk]
      · rw [if_pos hj] at h1
        rw [if_neg hk] at h2
        exact absurd h1 (dj k a hk h2)
    · by_cases hk : k = i
      · rw [if_neg hj] at h1
        rw [if_pos hk] at h2
        exact absurd h2 (dj j a hj h1)
      · rw [if_neg hj] at h1
        rw [if_neg hk] at h2
        exact ok.disj j k a h1 h2
  nd := fun j => by
    by_cases hj : j = i
    · simp only [hj, if_true]; exact nd
    · simp only [hj, if_false]; exact ok.nd j
  hot := fun j a e h => by
    have z := hot j a e h
    rw [List.getElem?_set_ne (Ne.symm z)]
    exact ok.hot j a e h
/-- an evaluated value is bound -/
theorem EOk.bindH {i n : Nat} {d : D} {v : V} (ok : EOk S H0 G0 H Hs Γ F σ η) (hot : ∀ j a e, S.hot = some (j, a, e) → j ≠ i) (st : Step H Hs H1 Hs1 Fr) (o : Own S H1 Hs1 d n v Fr) (hi : i < Γ.length ∨ (n = 0 ∧ Γ.getD i 0 = 0)) :
    EOk S H0 G0 H1 Hs1 (Γ.set i n) (fun j => if j = i then Fr else F j) (σ.set i (some v)) (η.set i (some d)) :=
  (ok.step st).setH hot o hi (fun a ha => ⟨(st.fr a ha).2, ok.st.all.free (st.fr a ha).1, o.there d n v Fr a ha⟩) (fun j a _ h1 h2 => by
    obtain ⟨_, _, o, ho⟩ := ok.hid j a h1
    rw [(st.fr a h2).1] at ho
    cases ho) st.nd
def coolAt (h : Option (Nat × Addr × Er)) (i : Nat) : Bool := match h with
  | none => true
  | some q => !(q.1 == i)
theorem coolAt_of {h : Option (Nat × Addr × Er)} {i : Nat} (e : coolAt h i = true) : ∀ (j : Nat) (a : Addr) (er : Er), h = some (j, a, er) → j ≠ i := fun j a er q => by
  subst q
  have z : (!(j == i)) = true := e
  simpa using z
/-- a slot is forgotten -/
theorem EOk.gone {i : Nat} (ok : EOk S H0 G0 H Hs Γ F σ η) (hot : S.hot = none) : EOk S H0 G0 H Hs Γ F (σ.set i none) (η.set i none) where
  st := ok.st
  len := by rw [List.length_set, List.length_set, ok.len]
  slot := fun j e he => by
    rw [List.getElem?_set] at he ⊢
    by_cases hj : i = j
    · subst hj
      simp only [if_true] at he
      split at he <;> cases he
    · simp only [hj, if_false] at he ⊢
      exact ok.slot j e he
  hid := ok.hid
  disj := ok.disj
  nd := ok.nd
  hot := fun j a e h => by rw [hot] at h; cases h
theorem EOk.goneH {i : Nat} (ok : EOk S H0 G0 H Hs Γ F σ η) (hot : ∀ j a e, S.hot = some (j, a, e) → j ≠ i) : EOk S H0 G0 H Hs Γ F (σ.set i none) (η.set i none) where
  st := ok.st
  len := by rw [List.length_set, List.length_set, ok.len]
  slot := fun j e he => by
    rw [List.getElem?_set] at he ⊢
    by_cases hj : i = j
    · subst hj
      simp only [if_true] at he
      split at he <;> cases he
    · simp only [hj, if_false] at he ⊢
      exact ok.slot j e he
  hid := ok.hid
  disj := ok.disj
  nd := ok.nd
  hot := fun j a e h => by
    have z := hot j a e h
    rw [List.getElem?_set_ne (Ne.symm z)]
    exact ok.hot j a e h
theorem EOk.wipe (ok : EOk S H0 G0 H Hs Γ F σ η) : ∀ vs : List Nat, vs.all (coolAt S.hot) = true → EOk S H0 G0 H Hs Γ F (wipe σ vs) (wipeE η vs)
  | [], _ => ok
  | v :: vs, hot => by
    rw [List.all_cons, Bool.and_eq_true] at hot
    exact (EOk.wipe ok vs hot.2).goneH (coolAt_of hot.1)
end
theorem wipe_get (σ : L2.St) : ∀ (vs : List Nat) (i : Nat), (wipe σ vs)[i]? = if i ∈ vs ∧ i < σ.length then some none else σ[i]?
  | [], i => by simp [wipe]
  | v :: vs, i => by
    unfold wipe
    rw [List.getElem?_set, wipe_length, wipe_get σ vs i]
    by_cases e : v = i
    · subst e
      by_cases h : v < σ.length <;> simp [h]
    · have e' : ¬ i = v := fun q => e q.symm
      simp [e, e']
theorem wipe_same {σ σ' : L2.St} {vs : List Nat} (hl : σ'.length = σ.length) (h : ∀ j, j ∉ vs → σ'[j]? = (wipe σ vs)[j]?) : wipe σ' vs = wipe σ vs := by
  apply List.ext_getElem?
  intro i
  rw [wipe_get, wipe_get]
  by_cases hi : i ∈ vs
  · by_cases hlt : i < σ.length
    · simp [hi, hlt, hl]
    · have h1 : ¬ i < σ'.length := by rw [hl]; exact hlt
      rw [if_neg (fun q => h1 q.2), if_neg (fun q => hlt q.2), List.getElem?_eq_none (by omega), List.getElem?_eq_none (by omega)]
  · rw [if_neg (fun q => hi q.1), if_neg (fun q => hi q.1), h i hi, wipe_get, if_neg (fun q => hi q.1)]
theorem wipe_wipe (σ : L2.St) (vs : List Nat) : wipe (wipe σ vs) vs = wipe σ vs := by
  apply List.ext_getElem?
  intro i
  rw [wipe_get, wipe_get, wipe_length]
  by_cases h : i ∈ vs ∧ i < σ.length
  · rw [if_pos h]
    simp [h]
  · rw [if_neg h]
/-! ### targets -/
def gB (S : Sta) (Γ : List Nat) (b : Bd) (sl : List Nat) : TG := fun v σ H Q => ∃ (H0 G0 Hs : Hp) (F : Nat → List Addr) (η : Env) (d : D), EOk S H0 G0 H Hs Γ F σ η ∧ Rep S Hs d v ∧
  ∃ η1, b d η = some η1 ∧ ∀ (σ1 : L2.St) (F1 : Nat → List Addr), EOk S H0 G0 H Hs Γ F1 σ1 η1 → (∀ j, j ∉ sl → σ1[j]? = σ[j]?) → σ1.length = σ.length → Q σ1 H
def gBs (S : Sta) (Γ : List Nat) (b : List D → Env → Option Env) (sl : List Nat) : TGs := fun vs σ H Q => ∃ (H0 G0 Hs : Hp) (F : Nat → List Addr) (η : Env) (ds : List D), EOk S H0 G0 H Hs Γ F σ η ∧ Reps S Hs ds vs ∧
  ∃ η1, b ds η = some η1 ∧ ∀ (σ1 : L2.St) (F1 : Nat → List Addr), EOk S H0 G0 H Hs Γ F1 σ1 η1 → (∀ j, j ∉ sl → σ1[j]? = σ[j]?) → σ1.length = σ.length → Q σ1 H
theorem set_zero {Γ : List Nat} {i : Nat} (h : Γ.getD i 0 = 0) : ∀ j, (Γ.set i 0).getD j 0 = Γ.getD j 0 := fun j => by
  rw [getD_set]
  split
  · rename_i q; rw [← q.1, h]
  · rfl
section
variable {X : Cx} {W : WX} {Γ : List Nat} {h : Option (Nat × Addr × Er)} {tg e elt iter : Expr} {es ts ifs : List Expr} {n k : Nat} {pos p : Pos} {x : Str} {b : Bd} {r : List D → Env → Option Env} {sl sl2 : List Nat}
theorem impG {t t' : TG} (h : PG X tg t) (i : ∀ v σ H Q, t' v σ H Q → t v σ H Q) : PG X tg t' := ⟨fun pins s σ H v u Q I rv w => h.run pins s σ H v u Q I rv (i v σ H Q w)⟩
theorem impGs {t t' : TGs} (h : PGs X ts t) (i : ∀ v σ H Q, t' v σ H Q → t v σ H Q) : PGs X ts t' := ⟨fun pins s σ H v u Q I rv w => h.run pins s σ H v u Q I rv (i v σ H Q w)⟩
theorem g_name (i : Nat) (hN : X.N.Nodup) (hi : X.N[i]? = some x := by rfl) (hg : Γ.getD i 0 = 0 := by rfl) (hx : Loc X.env.scope x := by first | exact Or.inl rfl | exact Or.inr rfl) (hf : X.fn x = true ∨ X.env.scope.names.lookup x = some .local := by first | exact .inl rfl | exact .inr rfl | assumption) (hh : coolAt h i = true := by rfl) :
    PG X (.Name x pos) (gB (sta X h) Γ (bName i) [i]) := impG (pg_name hN hi hx hf) fun v σ H Q w => by
  obtain ⟨H0, G0, Hs, F, η, d, ok, rd, η1, e1, kk⟩ := w
  unfold bName at e1
  split at e1
  · cases e1
    refine kk _ _ (((ok.bindH (coolAt_of hh) (Step.refl ok.sub) rd.own (.inr ⟨rfl, hg⟩))).cong fun j => (set_zero hg j).symm) (fun j hj => ?_) (by rw [List.length_set])
    rw [List.getElem?_set_ne (fun q => hj (by simp [q]))]
  · cases e1
theorem gs_nil : PGs X [] (gBs (sta X h) Γ bNil []) := impGs pgs_nil fun vs σ H Q w => by
  obtain ⟨H0, G0, Hs, F, η, ds, ok, rd, η1, e1, kk⟩ := w
  cases ds with
  | nil =>
    cases e1
    exact ⟨Reps.nil_iff.mp rd, kk σ F ok (fun _ _ => rfl) rfl⟩
  | cons d ds => cases e1
theorem gs_cons (h1 : PG X e (gB (sta X h) Γ b sl)) (h2 : PGs X es (gBs (sta X h) Γ r sl2)) (hst : (assignEach (e :: es) X.env).map (·.2) = assign e X.env :: (assignEach es X.env).map (·.2) := by rfl) : PGs X (e :: es) (gBs (sta X h) Γ (bCons b r) (sl ++ sl2)) := impGs (pgs_cons h1 h2 hst) fun vs σ H Q w => by
  obtain ⟨H0, G0, Hs, F, η, ds, ok, rd, η1, e1, kk⟩ := w
  cases ds with
  | nil => cases e1
  | cons d ds =>
    obtain ⟨v, ws, rfl, r1, r2⟩ := Reps.cons_iff.mp rd
    obtain ⟨η2, e2, e3⟩ := Option.bind_eq_some_iff.mp (show (b d η).bind (r ds) = some η1 from e1)
    refine ⟨v, ws, rfl, H0, G0, Hs, F, η, d, ok, r1, η2, e2, fun σ1 F1 ok1 hs1 hl1 => ?_⟩
    exact ⟨H0, G0, Hs, F1, η2, ds, ok1, r2, η1, e3, fun σ2 F2 ok2 hs2 hl2 => kk σ2 F2 ok2 (fun j hj => by
      rw [List.mem_append] at hj
      rw [hs2 j (fun q => hj (.inr q)), hs1 j (fun q => hj (.inl q))]) (hl2.trans hl1)⟩
theorem bl_nil : ∀ (ds : List D) (η η1 : Env), bNil ds η = some η1 → ds.length = 0 := fun ds η η1 h => by
  cases ds with
  | nil => rfl
  | cons d ds => cases h
theorem bl_cons {k : Nat} (h : ∀ (ds : List D) (η η1 : Env), r ds η = some η1 → ds.length = k) : ∀ (ds : List D) (η η1 : Env), bCons b r ds η = some η1 → ds.length = k + 1 := fun ds η η1 e => by
  cases ds with
  | nil => cases e
  | cons d ds =>
    obtain ⟨η2, e2, e3⟩ := Option.bind_eq_some_iff.mp (show (b d η).bind (r ds) = some η1 from e)
    rw [List.length_cons, h ds η2 η1 e3]
theorem orG {t1 t2 : TG} (h1 : PG X tg t1) (h2 : PG X tg t2) : PG X tg (fun v σ H Q => t1 v σ H Q ∨ t2 v σ H Q) := ⟨fun pins s σ H v u Q I rv w => by
  rcases w with w | w
  · exact h1.run pins s σ H v u Q I rv w
  · exact h2.run pins s σ H v u Q I rv w⟩
theorem g_tup {j : Nat} (hc : X.calm = true) (hg : PGs X es (gBs (sta X h) Γ r sl)) (hl : ∀ (ds : List D) (η η1 : Env), r ds η = some η1 → ds.length = n) (hn : (assignEach es X.env).length = n := by rfl) (hst : (assignEach es X.env).findIdx? (·.1) = none := by rfl) :
    PG X (.Tuple es j pos) (gB (sta X h) Γ (bTup r) sl) := impG (orG (pg_tup hc hg hn hst) (pg_lst hc hg hn hst)) fun v σ H Q w => by
  obtain ⟨H0, G0, Hs, F, η, d, ok, rd, η1, e1, kk⟩ := w
  cases d <;> first | (cases e1; done) | skip
  · rename_i ds
    unfold Rep at rd
    obtain ⟨a, vs, rfl, r1, r2⟩ := rd
    exact .inr ⟨a, vs, rfl, .inl (rd_sub ok.sub r1), by rw [r2.length]; exact hl ds η η1 e1, H0, G0, Hs, F, η, ds, ok, r2, η1, e1, kk⟩
  · rename_i ds
    unfold Rep at rd
    obtain ⟨a, vs, rfl, r1, r2⟩ := rd
    exact .inl ⟨a, vs, rfl, sqt_sub ok.sub r1, by rw [r2.length]; exact hl ds η η1 e1, H0, G0, Hs, F, η, ds, ok, r2, η1, e1, kk⟩
end
end VL
/-! VLComp: comprehensions. -/
namespace VL
open PySem PySem.Spec L2
abbrev W0 : WX := fun _ _ _ _ => False
/-- new objects behind a step: the list at P is changed -/
theorem Step.grow {H Hs H1 Hs1 : Hp} {P : Addr} {G Fr : List Addr} {o o' : HO} {H2 Hs2 : Hp} (a : Step H Hs H1 Hs1 (P :: G)) (hP : H1 P = some o) (hG : ∀ x ∈ G, ∃ u, H1 x = some u) (b : Step H1 Hs1 H2 Hs2 Fr) : Step H Hs (upd H2 P o') Hs2 (P :: (G ++ Fr)) where
  all := fun x u e => by
    rw [upd_ne (ne_of_none e (a.fr P List.mem_cons_self).1)]
    exact b.all x u (a.all x u e)
  shr := a.shr.trans b.shr
  sub := fun x u e => by
    have n : x ≠ P := fun q => by
      rw [q, b.new P (a.fr P List.mem_cons_self).2 ⟨o, hP⟩] at e; cases e
    rw [upd_ne n]; exact b.sub x u e
  new := fun x h1 ⟨u, h2⟩ => b.new x (a.new x h1 ⟨u, h2⟩) ⟨u, a.all x u h2⟩
  fr := fun x hx => by
    rcases List.mem_cons.mp hx with e | hx
    · rw [e]; exact ⟨(a.fr P List.mem_cons_self).1, b.new P (a.fr P List.mem_cons_self).2 ⟨o, hP⟩⟩
    · rcases List.mem_append.mp hx with hx | hx
      · exact ⟨(a.fr x (List.mem_cons_of_mem _ hx)).1, b.new x (a.fr x (List.mem_cons_of_mem _ hx)).2 (hG x hx)⟩
      · exact ⟨a.all.free (b.fr x hx).1, (b.fr x hx).2⟩
  nd := by
    have h1 := List.nodup_cons.mp a.nd
    refine List.nodup_cons.mpr ⟨fun hx => ?_, List.nodup_append.mpr ⟨h1.2, b.nd, fun x hx y hy e => ?_⟩⟩
    · rcases List.mem_append.mp hx with hx | hx
      · exact h1.1 hx
      · rw [(b.fr P hx).1] at hP; cases hP
    · subst e
      obtain ⟨u, hu⟩ := hG x hx
      rw [(b.fr x hy).1] at hu; cases hu
theorem Owns.there {S : Sta} {H Hs : Hp} : ∀ {ds : List D} {n : Nat} {vs : List V} {F : List Addr}, Owns S H Hs ds n vs F → ∀ a ∈ F, ∃ o, H a = some o
  | [], n, vs, F, h, a, ha => by rw [(Owns.nil.mp h).2] at ha; cases ha
  | d :: ds, n, vs, F, h, a, ha => by
    obtain ⟨v, ws, F1, F2, rfl, rfl, h1, h2⟩ := Owns.cons.mp h
    rcases List.mem_append.mp ha with ha | ha
    · exact h1.there d n v F1 a ha
    · exact Owns.there h2 a ha
/-- the state in a comprehension: the list at P holds acc -/
structure CpOk (S : Sta) (H Hs : Hp) (P : Addr) (ne : Nat) (acc : List D) (H' Hs' : Hp) (vs : List V) (G : List Addr) : Prop where
  st : Step H Hs H' Hs' (P :: G)
  at_ : H' P = some (.lst vs)
  own : Owns S H' Hs' acc ne vs G
section
variable {X : Cx} {W : WX} {Γ : List Nat} {tg elt iter : Expr} {ifs : List Expr} {mi : M (List D)} {b : Bd} {q : M Bool} {me : M D} {ne i : Nat} {own sl : List Nat} {pos spos py : Pos} {S : Sta} {σ : L2.St} {H : Hp} {Q : VK}
theorem compGo_stuck {η : Env} {xs acc : List D} : compGo b q me η xs acc ≠ .stuck → ∃ ds, compGo b q me η xs acc = .ok ds := by
  intro h
  cases e : compGo b q me η xs acc with
  | ok ds => exact ⟨ds, rfl⟩
  | stuck => exact absurd e h
  | exc er =>
    exfalso
    revert e
    clear h
    induction xs generalizing acc with
    | nil => intro e; cases e
    | cons x xs ih =>
      intro e
      unfold compGo at e
      split at e
      · split at e
        · split at e
          · split at e
            · exact ih e
            · cases e
          · cases e
        · exact ih e
        · cases e
      · cases e
theorem lc_of (hot : own.all (coolAt S.hot) = true) (hsl : ∀ j ∈ sl, j ∈ own) (w : tE S W Γ (dComp mi b q me own) (ne + 1) σ H Q) : tLc (tI S W Γ mi) (gB S Γ b sl) (tQ S W0 Γ q) (tE S W0 Γ me ne) own σ H Q := by
  obtain ⟨H0, G0, Hs, F, η, ok, p⟩ := w
  refine ⟨H0, G0, Hs, F, η, ok, (Post.bind p).imp fun xs px J H1 Hs1 st1 wk P hP => ?_⟩
  have pb := Post.bind px
  have ok1 := ok.step st1
  obtain ⟨dsF, hF⟩ : ∃ ds, compGo b q me (wipeE η own) xs [] = .ok ds := compGo_stuck fun e => by rw [e] at pb; exact pb
  rw [hF] at pb
  have fin : ∀ (v : V) (H' Hs' : Hp) (Fr : List Addr), Step H Hs H' Hs' Fr → Own S H' Hs' (.lst dsF) (ne + 1) v Fr → Q v H' := pb
  refine ⟨fun i m H' => m = xs.length - i ∧ i ≤ xs.length ∧ ∃ (Hs' : Hp) (acc : List D) (vs : List V) (G : List Addr), CpOk S H1 Hs1 P ne acc H' Hs' vs G ∧ compGo b q me (wipeE η own) (xs.drop i) acc = .ok dsF, ⟨xs.length, rfl, Nat.zero_le _, Hs1, [], [], [], ⟨Step.newO ok1.sub hP, upd_same, Owns.nil.mpr ⟨rfl, rfl⟩⟩, hF⟩, ?_⟩
  rintro i m H' ⟨rfl, hi, Hs', acc, vs, G, cp, go⟩
  obtain ⟨wk1, wk2⟩ := wk i H' Hs' cp.st.shr cp.st.sub
  by_cases hlt : i < xs.length
  · right
    have hx : xs[i]? = some xs[i] := List.getElem?_eq_getElem hlt
    obtain ⟨g1, g2⟩ := wk1 _ hx
    have hdrop : xs.drop i = xs[i] :: xs.drop (i + 1) := List.drop_eq_getElem_cons hlt
    rw [hdrop] at go
    unfold compGo at go
    have okc := ok1.step cp.st
    refine ⟨g1, fun H2 => ∃ (Hs2 : Hp) (acc : List D) (vs : List V) (G : List Addr), CpOk S H1 Hs1 P ne acc H2 Hs2 vs G ∧ compGo b q me (wipeE η own) (xs.drop (i + 1)) acc = .ok dsF, fun H2 h2 => ⟨xs.length - (i + 1), by omega, rfl, hlt, h2⟩, fun x H2 yl => ?_⟩
    obtain ⟨Hs2, st2, rx⟩ := g2 x H2 yl
    split at go
    · rename_i η1 hb
      have okw := (okc.step st2).wipe own hot
      refine ⟨H0, G0, Hs2, F, wipeE η own, xs[i], okw, rx, η1, hb, fun σ2 F1 ok2 hs2 hl2 => ?_⟩
      refine ⟨?_, H0, G0, Hs2, F1, η1, ok2, ?_⟩
      · have e1 := wipe_same (σ := wipe σ own) (σ' := σ2) (vs := own) hl2 fun j hj => by
          rw [hs2 j (fun z => hj (hsl j z)), wipe_wipe]
        rw [e1, wipe_wipe]
      · have stp : Step H1 Hs1 H2 Hs2 (P :: G) → True := fun _ => trivial
        split at go
        · rename_i hq
          rw [hq]
          refine fun H3 Hs3 st3 => ?_
          dsimp only
          rw [if_pos rfl]
          split at go
          · rename_i d he
            split at go
            · rename_i hlen
              refine ⟨H0, G0, Hs3, F1, η1, ok2.step st3, ?_⟩
              rw [he]
              refine fun v H4 Hs4 Fr4 st4 o4 => ?_
              have s24 := (st2.trans st3).trans st4
              have hP4 : H4 P = some (.lst vs) := s24.all P _ cp.at_
              refine ⟨vs, hP4, by rw [cp.own.length, ← line_eq]; exact hlen, Hs4, acc ++ [d], vs ++ [v], G ++ Fr4, ⟨?_, upd_same, ?_⟩, go⟩
              · exact Step.grow cp.st cp.at_ cp.own.there s24
              · have nP : ∀ a ∈ G ++ Fr4, (upd H4 P (.lst (vs ++ [v]))) a = H4 a := fun a ha => upd_ne fun e => by
                  subst e
                  rcases List.mem_append.mp ha with ha | ha
                  · exact (List.nodup_cons.mp cp.st.nd).1 ha
                  · have z := (s24.fr a ha).1
                    rw [cp.at_] at z; cases z
                have o1 : Owns S H4 Hs4 acc ne vs G := cp.own.move s24.shr acc ne vs G fun a ha => by
                  obtain ⟨u, hu⟩ := cp.own.there a ha
                  rw [hu, s24.all a u hu]
                exact (o1.append (Owns.one o4)).move (Same.refl _) _ _ _ _ nP
            · cases go
          · cases go
        · rename_i hq
          rw [hq]
          refine fun H3 Hs3 st3 => ?_
          dsimp only
          rw [if_neg Bool.false_ne_true]
          have s23 := st2.trans st3
          refine ⟨Hs3, acc, vs, G, ⟨?_, s23.all P _ cp.at_, cp.own.move s23.shr acc ne vs G fun a ha => by
            obtain ⟨u, hu⟩ := cp.own.there a ha
            rw [hu, s23.all a u hu]⟩, go⟩
          refine ⟨cp.st.all.trans s23.all, cp.st.shr.trans s23.shr, s23.sub, fun a h1 ⟨u, h2⟩ => s23.new a (cp.st.new a h1 ⟨u, h2⟩) ⟨u, cp.st.all a u h2⟩, fun a ha => ⟨(cp.st.fr a ha).1, s23.new a (cp.st.fr a ha).2 ?_⟩, cp.st.nd⟩
          rcases List.mem_cons.mp ha with e | ha
          · rw [e]; exact ⟨_, cp.at_⟩
          · exact cp.own.there a ha
        · cases go
    · cases go
  · left
    have e : i = xs.length := by omega
    subst e
    refine ⟨wk2 (List.getElem?_eq_none (Nat.le_refl _)), ?_⟩
    rw [List.drop_length] at go
    unfold compGo at go
    cases go
    exact fin _ H' Hs' (P :: G) (st1.trans cp.st) (Own.succ.mpr ⟨P, vs, G, rfl, rfl, cp.at_, cp.own⟩)
theorem t_nil {S : Sta} {W : WX} : PTs X [] (tQ S W Γ qYes) := ⟨fun pins s σ H Q I w => by
  obtain ⟨H0, G0, Hs, F, η, ok, p⟩ := w
  exact pts_nil.run pins s σ H Q I (p H Hs (Step.refl ok.sub))⟩
theorem t_one {c : Expr} {S : Sta} {W : WX} (h : PT X c (tQ S W Γ q)) : PTs X [c] (tQ S W Γ q) := pts_one h
theorem e_comp {h : Option (Nat × Addr × Er)} {scope : Scope} {own : List (Str × Nat)} (hc : X.calm = true) (hN : X.N.Nodup) (hi : PI X tg iter (tI (sta X h) W Γ mi)) (okB : BlkOk X.N X.env.scope scope own) (hsl : ∀ j ∈ sl, j ∈ own.map (·.2))
    (hg : ∀ (s : Shared) (H : Hp) (C : Addr) (cl : List (Str × Addr)) (fp : List Addr), PG (X.blk s H scope (compEnvC scope cl C X.env) fp) tg (gB (sta X h) Γ b sl)) (ht : ∀ (s : Shared) (H : Hp) (C : Addr) (cl : List (Str × Addr)) (fp : List Addr), PTs (X.blk s H scope (compEnvC scope cl C X.env) fp) ifs (tQ (sta X h) W0 Γ q))
    (he : ∀ (s : Shared) (H : Hp) (C : Addr) (cl : List (Str × Addr)) (fp : List Addr), PE (X.blk s H scope (compEnvC scope cl C X.env) fp) elt (tE (sta X h) W0 Γ me ne)) (hs : ∀ x, foldedSetIterable iter X.env x = pure x := by intro _; rfl) (hh : (own.map (·.2)).all (coolAt h) = true := by rfl) :
    PE X (.ListComp elt [⟨tg, iter, ifs, 0⟩] scope pos) (tE (sta X h) W Γ (dComp mi b q me (own.map (·.2))) (ne + 1)) := impE (pe_lc hc hN hi okB hg ht he hs) fun σ H Q w => lc_of hh hsl w
end
end VL
/-! VLSt: statements. -/
namespace VL
open PySem PySem.Spec L2
structure Ct where
  S : Sta
  W : WX
  nr : Nat
  Γb : List Nat
  Γc : List Nat
def PostS (c : Ct) (H0 G0 : Hp) (Γ' : List Nat) (r : Fl) (D : Ends) : Prop := match r with
  | .nx η' => ∀ (σ' : L2.St) (H' Hs' : Hp) (F' : Nat → List Addr), EOk c.S H0 G0 H' Hs' Γ' F' σ' η' → D.nx σ' H'
  | .rt d => ∀ (v : V) (H' Hs' : Hp) (Fr : List Addr), Step H0 G0 H' Hs' Fr → Own c.S H' Hs' d c.nr v Fr → D.rt v H'
  | .bk η' => ∀ (σ' : L2.St) (H' Hs' : Hp) (F' : Nat → List Addr), EOk c.S H0 G0 H' Hs' c.Γb F' σ' η' → D.bk σ' H'
  | .ct η' => ∀ (σ' : L2.St) (H' Hs' : Hp) (F' : Nat → List Addr), EOk c.S H0 G0 H' Hs' c.Γc F' σ' η' → D.ct σ' H'
  | .ex e η' => ∀ (cls : Value) (dd : Option Addr) (σ' : L2.St) (H' Hs' : Hp) (F' : Nat → List Addr), clsIs c.S e cls dd → EOk c.S H0 G0 H' Hs' [] F' σ' η' → c.W cls dd σ' H'
  | .stuck => False
def tS (c : Ct) (Γ : List Nat) (m : Env → Fl) (Γ' : List Nat) : TS := fun D σ H => ∃ (H0 G0 Hs : Hp) (F : Nat → List Addr) (η : Env), EOk c.S H0 G0 H Hs Γ F σ η ∧ PostS c H0 G0 Γ' (m η) D
section
variable {c : Ct} {H0 G0 H Hs : Hp} {Γ Γ' : List Nat} {F : Nat → List Addr} {σ : L2.St} {η : Env}
theorem EOk.cold (ok : EOk c.S H0 G0 H Hs Γ F σ η) : ∃ Hs' F', EOk c.S H0 G0 H Hs' [] F' σ η ∧ Same Hs Hs' := by
  obtain ⟨Hs', F', h1, h2, _⟩ := ok.froz fun _ => false
  refine ⟨Hs', F', h1.cong fun i => ?_, h2⟩
  by_cases hi : i < Γ.length <;> simp [List.getD, hi]
/-- an expression's end in a statement -/
theorem onRes_post {α : Type} {r : Res α} {k : α → Fl} {D : Ends} (ok : EOk c.S H0 G0 H Hs Γ F σ η) (p : PostS c H0 G0 Γ' (onRes r η k) D) : Post c.S c.W σ H r fun a => PostS c H0 G0 Γ' (k a) D := by
  cases r with
  | ok a => exact p
  | exc e =>
    intro cls d H' hc sm
    -- the heap H' has all that H has
    obtain ⟨Hs', F', h1, h2⟩ := (ok.step (H1 := H') (Hs1 := Hs) (Fr := []) ⟨sm, Same.refl _, ok.sub.trans sm, fun a h1 _ => h1, fun _ z => absurd z List.not_mem_nil, List.nodup_nil⟩).cold
    exact p cls d σ H' Hs' F' hc h1
  | stuck => exact p
end
section
variable {X : Cx} {c : Ct} {W : WX} {Γ Γ' Γ1 Γ2 : List Nat} {h : Option (Nat × Addr × Er)} {a b e tg iter : Expr} {st : Stmt} {sts rest body orelse : List Stmt} {ma mb : M D} {qa : M Bool} {m m1 m2 : Env → Fl} {n na nb k i : Nat} {pos p : Pos} {x : Str} {bd : Bd} {sl : List Nat} {mi : M (List D)}
theorem ss_nil : PSs X [] (tS c Γ sNext Γ) := impSs pss_nil fun D σ H w => by
  obtain ⟨H0, G0, Hs, F, η, ok, p⟩ := w
  exact p σ H Hs F ok
theorem seq_post {H0 G0 : Hp} {η : Env} {D : Ends} (p : PostS c H0 G0 Γ2 (sSeq m1 m2 η) D) : PostS c H0 G0 Γ1 (m1 η) { D with nx := tS c Γ1 m2 Γ2 D } := by
  unfold sSeq at p
  split at p
  · rename_i η' e
    rw [e]
    exact fun σ' H' Hs' F' ok' => ⟨H0, G0, Hs', F', η', ok', p⟩
  · rename_i r hr
    cases e : m1 η with
    | nx η' => exact absurd e (hr η')
    | rt d => rw [e] at p; exact p
    | bk η' => rw [e] at p; exact p
    | ct η' => rw [e] at p; exact p
    | ex er η' => rw [e] at p; exact p
    | stuck => rw [e] at p; exact p
theorem ss_cons (h1 : PS X st (tS c Γ m1 Γ1)) (h2 : PSs X rest (tS c Γ1 m2 Γ2)) : PSs X (st :: rest) (tS c Γ (sSeq m1 m2) Γ2) := impSs (pss_cons h1 h2) fun D σ H w => by
  obtain ⟨H0, G0, Hs, F, η, ok, p⟩ := w
  exact ⟨H0, G0, Hs, F, η, ok, seq_post p⟩
theorem ss_one (h1 : PS X st (tS c Γ m Γ1)) : PSs X [st] (tS c Γ m Γ1) := pss_one h1
/-- slots are shared ahead of a statement -/
theorem ss_fz (fl : List Bool) (hG : keepG Γ (fun i => fl.getD i false) = Γ1) (h1 : PSs X sts (tS c Γ1 m Γ2)) : PSs X sts (tS c Γ m Γ2) := impSs h1 fun D σ H w => by
  obtain ⟨H0, G0, Hs, F, η, ok, p⟩ := w
  obtain ⟨Hs', F', ok', _, _⟩ := ok.froz fun i => fl.getD i false
  have ok2 : EOk c.S H0 G0 H Hs' Γ1 F' σ η := by rw [← hG]; exact ok'
  exact ⟨H0, G0, Hs', F', η, ok2, p⟩
/-- slots are shared behind a statement -/
theorem s_fz (fl : List Bool) (hG : keepG Γ1 (fun i => fl.getD i false) = Γ2) (h1 : PS X st (tS c Γ m Γ1)) : PS X st (tS c Γ m Γ2) := impS h1 fun D σ H w => by
  obtain ⟨H0, G0, Hs, F, η, ok, p⟩ := w
  refine ⟨H0, G0, Hs, F, η, ok, ?_⟩
  cases e : m η with
  | nx η' =>
    rw [e] at p
    intro σ' H' Hs' F' ok'
    obtain ⟨Hs2, F2, ok2, _, _⟩ := ok'.froz fun i => fl.getD i false
    have ok3 : EOk c.S H0 G0 H' Hs2 Γ2 F2 σ' η' := by rw [← hG]; exact ok2
    exact p σ' H' Hs2 F2 ok3
  | rt d => rw [e] at p; exact p
  | bk η' => rw [e] at p; exact p
  | ct η' => rw [e] at p; exact p
  | ex er η' => rw [e] at p; exact p
  | stuck => rw [e] at p; exact p
theorem s_pass : PS X (.Pass pos) (tS c Γ sNext Γ) := impS ps_pass fun D σ H w => by
  obtain ⟨H0, G0, Hs, F, η, ok, p⟩ := w
  exact p σ H Hs F ok
theorem s_break (hG : c.Γb = Γ := by rfl) : PS X (.Break pos) (tS c Γ sBreak Γ') := impS ps_break fun D σ H w => by
  obtain ⟨H0, G0, Hs, F, η, ok, p⟩ := w
  exact p σ H Hs F (by rw [hG]; exact ok)
theorem s_cont (hG : c.Γc = Γ := by rfl) : PS X (.Continue pos) (tS c Γ sCont Γ') := impS ps_continue fun D σ H w => by
  obtain ⟨H0, G0, Hs, F, η, ok, p⟩ := w
  exact p σ H Hs F (by rw [hG]; exact ok)
theorem s_expr (hS : c.S = sta X h) (he : PE X e (tE (sta X h) c.W Γ ma na)) (hs : swapsWith e none pos.line X.env = pure false := by rfl) : PS X (.Expr e pos) (tS c Γ (sExpr ma) Γ) := impS (ps_expr he hs) fun D σ H w => by
  obtain ⟨H0, G0, Hs, F, η, ok, p⟩ := w
  have pp := onRes_post ok p
  rw [hS] at pp ok
  refine ⟨H0, G0, Hs, F, η, ok, pp.imp fun d kk v H' Hs' Fr st' o => ?_⟩
  have ok2 : EOk c.S H0 G0 H' Hs' Γ F σ η := by rw [hS]; exact ok.step st'
  exact kk σ H' Hs' F ok2
theorem asg_of {t : TE} (hi : ∀ Q σ H, tE c.S c.W Γ ma n σ H Q → t σ H Q) (hot : ∀ j a e, c.S.hot = some (j, a, e) → j ≠ i) (hG : Γ.set i n = Γ') (hl : i < Γ.length ∨ (n = 0 ∧ Γ.getD i 0 = 0)) {D : Ends} {σ : L2.St} {H : Hp} (w : tS c Γ (sAsg ma (bName i)) Γ' D σ H) : tAsg t (gName i) D σ H := by
  obtain ⟨H0, G0, Hs, F, η, ok, p⟩ := w
  refine hi _ σ H ⟨H0, G0, Hs, F, η, ok, (onRes_post ok p).imp fun d kk v H' Hs' Fr st' o => ?_⟩
  show D.nx (σ.set i (some v)) H'
  unfold bName at kk
  by_cases hle : i < η.length
  · rw [if_pos hle] at kk
    have z := ok.bindH hot st' o hl
    rw [hG] at z
    exact kk _ _ _ _ z
  · rw [if_neg hle] at kk
    exact kk.elim
theorem s_asg {p' : Pos} {h : Option (Nat × Addr × Er)} (i : Nat) (hS : c.S = sta X h) (hN : X.N.Nodup) (he : PE X e (tE (sta X h) c.W Γ ma n)) (hG : Γ.set i n = Γ' := by rfl) (hh : coolAt h i = true := by rfl) (hl : i < Γ.length ∨ (n = 0 ∧ Γ.getD i 0 = 0) := by first | exact Or.inl (by decide) | exact Or.inr ⟨rfl, rfl⟩) (hi : X.N[i]? = some x := by rfl) (hx : Loc X.env.scope x := by first | exact Or.inl rfl | exact Or.inr rfl) (hs : swapsWith e (some (.Name x p')) pos.line X.env = pure false := by rfl)
    (hf : X.fn x = true ∨ X.env.scope.names.lookup x = some .local := by first | exact .inl rfl | exact .inr rfl | assumption) : PS X (.Assign [.Name x p'] e pos) (tS c Γ (sAsg ma (bName i)) Γ') := impS (ps_set hN hi hx he hs hf) fun D σ H w =>
  asg_of (by rw [hS]; exact fun _ _ _ z => z) (by rw [hS]; exact coolAt_of hh) hG hl w
/-- y = [..] on one line -/
theorem s_asgC {py : Pos} {elt : Expr} {ifs : List Expr} {scope : Scope} {own : List (Str × Nat)} {spos : Pos} {q : M Bool} {me : M D} {ne : Nat} (i : Nat) (hS : c.S = sta X h) (hc : X.calm = true) (hN : X.N.Nodup) (hi : PI X tg iter (tI (sta X h) c.W Γ mi)) (okB : BlkOk X.N X.env.scope scope own) (hsl : ∀ j ∈ sl, j ∈ own.map (·.2))
    (hg : ∀ (s : Shared) (H : Hp) (C : Addr) (cl : List (Str × Addr)) (fp : List Addr), PG (X.blk s H scope (compEnvC scope cl C X.env) fp) tg (gB (sta X h) Γ bd sl)) (ht : ∀ (s : Shared) (H : Hp) (C : Addr) (cl : List (Str × Addr)) (fp : List Addr), PTs (X.blk s H scope (compEnvC scope cl C X.env) fp) ifs (tQ (sta X h) W0 Γ q))
    (he : ∀ (s : Shared) (H : Hp) (C : Addr) (cl : List (Str × Addr)) (fp : List Addr), PE (X.blk s H scope (compEnvC scope cl C X.env) fp) elt (tE (sta X h) W0 Γ me ne))
    (hG : Γ.set i (ne + 1) = Γ' := by rfl) (hl : i < Γ.length ∨ (ne + 1 = 0 ∧ Γ.getD i 0 = 0) := by exact Or.inl (by decide)) (hy : X.N[i]? = some x := by rfl) (hyl : X.env.scope.names.lookup x = some .local := by rfl)
    (hsw : swapsWith (.ListComp elt [⟨tg, iter, ifs, 0⟩] scope pos) (some (.Name x py)) spos.line X.env = pure true := by exact sw_true rfl rfl rfl (by decide +kernel)) (hs : ∀ z, foldedSetIterable iter X.env z = pure z := by intro _; rfl) (hh : (own.map (·.2)).all (coolAt h) = true := by rfl) (hh2 : coolAt h i = true := by rfl) :
    PS X (.Assign [.Name x py] (.ListComp elt [⟨tg, iter, ifs, 0⟩] scope pos) spos) (tS c Γ (sAsg (dComp mi bd q me (own.map (·.2))) (bName i)) Γ') := impS (ps_setLc hc hN hy hyl hsw hi okB hg ht he hs) fun D σ H w =>
  asg_of (fun Q σ H z => by rw [hS] at z; exact lc_of (S := sta X h) hh hsl z) (by rw [hS]; exact coolAt_of hh2) hG hl w
/-- a, b = e -/
theorem s_asgT (hS : c.S = sta X h) (he : PE X e (tE (sta X h) c.W Γ ma na)) (hg : PG X tg (gB (sta X h) Γ bd sl)) (hs : swapsWithSole [tg] e pos.line X.env = pure false := by rfl) (hw : swappedStores [tg] e X.env = pure none := by rfl) (h1 : (assignEach [tg] X.env).map (·.2) = [assign tg X.env] := by rfl) :
    PS X (.Assign [tg] e pos) (tS c Γ (sAsg ma bd) Γ) := impS (ps_asg he hg hs hw h1) fun D σ H w => by
  obtain ⟨H0, G0, Hs, F, η, ok, p⟩ := w
  have pp := onRes_post ok p
  rw [hS] at pp ok
  refine tE.use ok (pp.imp fun d kk v H' Hs' st' rd ok' => ?_)
  cases hb : bd d η with
  | some η1 =>
    rw [hb] at kk
    exact ⟨H0, G0, Hs', F, η, d, ok', rd, η1, hb, fun σ1 F1 ok1 _ _ => kk σ1 H' Hs' F1 (by rw [hS]; exact ok1)⟩
  | none => rw [hb] at kk; exact kk.elim
/-- a, b = x, y (plain names) -/
def sPar (i j : Nat) (a b : M D) : Env → Fl := fun η => onRes ((a η).bind fun x => (b η).bind fun y => .ok (x, y)) η fun r => if i < η.length ∧ j < η.length then .nx ((η.set i (some r.1)).set j (some r.2)) else .stuck
theorem s_par {y : Str} {px py pt : Pos} {kt k2 pt2} (i j : Nat) (hS : c.S = sta X h) (hc : X.calm = true) (hN : X.N.Nodup) (ha : PE X a (tE (sta X h) c.W Γ ma na)) (hb : PE X b (tE (sta X h) c.W Γ mb nb)) (hgi : Γ.getD i 0 = 0 := by rfl) (hgj : Γ.getD j 0 = 0 := by rfl) (hi : X.N[i]? = some x := by rfl) (hj : X.N[j]? = some y := by rfl) (hij : i ≠ j := by decide)
    (hx : X.env.scope.names.lookup x = some .local := by rfl) (hy : X.env.scope.names.lookup y = some .local := by rfl)
    (hw : swappedStores [.Tuple [.Name x px, .Name y py] kt pt] (.Tuple [a, b] k2 pt2) X.env = pure (some [x, y]) := by rfl)
    (hs : swapsWithSole [.Tuple [.Name x px, .Name y py] kt pt] (.Tuple [a, b] k2 pt2) pos.line X.env = pure false := by rfl) (h1 : starEach [a, b] X.env = (false, eval a X.env) :: starEach [b] X.env := by rfl) (h2 : starEach [b] X.env = (false, eval b X.env) :: starEach [] X.env := by rfl) (hhi : coolAt h i = true := by rfl) (hhj : coolAt h j = true := by rfl) :
    PS X (.Assign [.Tuple [.Name x px, .Name y py] kt pt] (.Tuple [a, b] k2 pt2) pos) (tS c Γ (sPar i j ma mb) Γ) := impS (ps_par hc hN hi hj hij hx hy (pa_cons ha (pa_cons hb pa_nil h2) h1) hw hs) fun D σ H w => by
  obtain ⟨H0, G0, Hs, F, η, ok, p⟩ := w
  have pp := onRes_post ok p
  rw [hS] at pp ok
  refine tE.use ok ((Post.bind pp).imp fun d pd v H1 Hs1 st1 rd ok1 => ?_)
  refine tE.use ok1 (((Post.bind pd).up st1.all).imp fun d2 pd2 v2 H2 Hs2 st2 rd2 ok2 => ?_)
  refine ⟨v, v2, rfl, ?_⟩
  have pd3 : PostS c H0 G0 Γ (if i < η.length ∧ j < η.length then .nx ((η.set i (some d)).set j (some d2)) else .stuck) D := pd2
  split at pd3
  · have k1 := ((ok2.bindH (coolAt_of hhi) (Step.refl ok2.sub) (rd.same st2.shr).own (.inr ⟨rfl, hgi⟩))).cong fun j => (set_zero hgi j).symm
    have k2 := ((k1.bindH (coolAt_of hhj) (Step.refl k1.sub) rd2.own (.inr ⟨rfl, hgj⟩))).cong fun j => (set_zero hgj j).symm
    exact pd3 _ _ _ _ (by rw [hS]; exact k2)
  · exact pd3.elim
theorem s_ret {h : Option (Nat × Addr × Er)} (hS : c.S = sta X h) (he : PE X e (tE (sta X h) c.W Γ ma c.nr)) : PS X (.Return (some e) pos) (tS c Γ (sRet ma) Γ') := impS (ps_ret he) fun D σ H w => by
  obtain ⟨H0, G0, Hs, F, η, ok, p⟩ := w
  have pp := onRes_post ok p
  rw [hS] at pp ok
  exact ⟨H0, G0, Hs, F, η, ok, pp.imp fun d kk v H' Hs' Fr st' o => kk v H' Hs' Fr (ok.st.trans st') (by rw [hS]; exact o)⟩
/-- return x, x a list of this frame's own -/
theorem s_retO {p2 : Pos} (i : Nat) (hS : c.S = sta X h) (hG : Γ.getD i 0 = c.nr := by rfl) (hN : X.N[i]? = some x := by rfl) (hv : Vis X.env.scope x := by first | exact Or.inl rfl | exact Or.inr (Or.inl rfl) | exact Or.inr (Or.inr rfl)) (hd : (x == ("__debug__" : Str)) = false := by decide) (hcd : (x == ("__classdict__" : Str)) = false := by decide) :
    PS X (.Return (some (.Name x p2)) pos) (tS c Γ (sRet (dVar i)) Γ') := impS (ps_ret (pe_var hN hv hd hcd)) fun D σ H w => by
  obtain ⟨H0, G0, Hs, F, η, ok, p⟩ := w
  have pp := onRes_post ok p
  unfold dVar at pp
  split at pp
  · rename_i d hd
    obtain ⟨v, h1, h2⟩ := ok.slot i d hd
    rw [hG] at h2
    exact ⟨v, h1, pp v H Hs (F i) ⟨ok.st.all, ok.st.shr, ok.st.sub, ok.st.new, fun a ha => ⟨(ok.hid i a ha).2.1, (ok.hid i a ha).1⟩, ok.nd i⟩ h2⟩
  · exact pp.elim
theorem s_retN : PS X (.Return none pos) (tS c Γ sRetN Γ') := impS ps_retN fun D σ H w => by
  obtain ⟨H0, G0, Hs, F, η, ok, p⟩ := w
  refine p .non H Hs [] ok.st ((Own.other rfl).mpr ⟨rfl, ?_⟩)
  unfold Rep; rfl
theorem s_if (hS : c.S = sta X h) {ce : Expr} (hq : PT X ce (tQ (sta X h) c.W Γ qa)) (ha : PSs X body (tS c Γ m1 Γ')) (hb : PSs X orelse (tS c Γ m2 Γ')) : PS X (.If ce body orelse pos) (tS c Γ (sIf qa m1 m2) Γ') := impS (ps_if hq ha hb) fun D σ H w => by
  obtain ⟨H0, G0, Hs, F, η, ok, p⟩ := w
  have pp := onRes_post ok p
  rw [hS] at pp ok
  refine tQ.use ok (pp.imp fun b kk H' Hs' st' ok' => ?_)
  have ok2 : EOk c.S H0 G0 H' Hs' Γ F σ η := by rw [hS]; exact ok'
  cases b with
  | true => exact ⟨H0, G0, Hs', F, η, ok2, kk⟩
  | false => exact ⟨H0, G0, Hs', F, η, ok2, kk⟩
/-- x.append(e) -/
theorem s_app {apos cpos p2 : Pos} {n : Nat} (k : Nat) (hS : c.S = sta X h) (he : PE X e (tE (sta X h) c.W Γ ma n)) (hG : Γ.getD k 0 = n + 1 := by rfl) (hN : X.N[k]? = some x := by rfl) (hv : Vis X.env.scope x := by first | exact Or.inl rfl | exact Or.inr (Or.inl rfl) | exact Or.inr (Or.inr rfl)) (hd : (x == ("__debug__" : Str)) = false := by decide) (hcd : (x == ("__classdict__" : Str)) = false := by decide)
    (hbase : attributeBase (.Name x p2) "append" X.env (eval (.Name x p2) X.env) = eval (.Name x p2) X.env := by rfl)
    (hfew : ((backTo cpos (starEach [e] X.env)).all (fun x => !x.1) && (backToKw cpos (keywordEach [] X.env)).all (fun x => x.1.isSome) && decide ([e].length + ([] : List Keyword).length + (if ([] : List Keyword).isEmpty then 0 else 1) < 30)) = true := by rfl)
    (hline : (apos.endLine == cpos.line) = true := by rfl) (hse : starEach [e] X.env = (false, eval e X.env) :: starEach [] X.env := by rfl) (hplain : (backTo cpos (starEach [] X.env)).any (·.1) = false := by rfl)
    (hs : swapsWith (.Call (.Attribute (.Name x p2) "append" apos) [e] [] cpos) none pos.line X.env = pure false := by rfl) :
    PS X (.Expr (.Call (.Attribute (.Name x p2) "append" apos) [e] [] cpos) pos) (tS c Γ (sApp k ma) Γ) :=
  impS (ps_expr (pe_bm PySem.F.plainAttrs_list PySem.F.slot_list_append PySem.F.type_list_append (id mt_append) (pe_var hN hv hd hcd) (pa_cons he pa_nil hse) hbase hfew hline hse hplain) hs) fun D σ H w => by
    obtain ⟨H0, G0, Hs, F, η, ok, p⟩ := w
    obtain ⟨xs, e1, px⟩ := lstAt_ok (onRes_post ok p)
    rw [hS] at ok
    obtain ⟨l, vs, G, h1, h2, h3, h4⟩ := own_at ok hG e1
    refine ⟨.ref l, h1, Or.inl ⟨rfl, vs, SqL.of h3⟩, ?_⟩
    have ok' : EOk c.S H0 G0 H Hs Γ F σ η := by rw [hS]; exact ok
    have pp := onRes_post ok' px
    rw [hS] at pp
    refine ⟨H0, G0, Hs, F, η, ok, pp.imp fun d kk v H' Hs' Fr st' o => ?_⟩
    split at kk
    · rename_i hl
      have h3' : H' l = some (.lst vs) := st'.all _ _ h3
      refine ⟨l, vs, v, rfl, rfl, h3', by rw [h4.length, ← line_eq]; exact hl, ?_⟩
      have okn := ok.step st'
      have hk : k < η.length := (List.getElem?_eq_some_iff.mp e1).1
      have lF : l ∈ F k := by rw [h2]; exact List.mem_cons_self
      have nlF : l ∉ Fr := fun q => by rw [(st'.fr l q).1] at h3; cases h3
      -- the shared part and the rest stand
      have eo : EOk (sta X h) H0 G0 (upd H' l (.lst (vs ++ [v]))) Hs' Γ (fun j => if j = k then l :: (G ++ Fr) else F j) σ (η.set k (some (.lst (xs ++ [d])))) := by
        have hidl := okn.hid k l lF
        refine ⟨⟨fun b u q => ?_, okn.st.shr, fun b u q => ?_, okn.st.new, fun _ z => absurd z List.not_mem_nil, List.nodup_nil⟩, by rw [List.length_set, okn.len], fun j z hz => ?_, fun j b hb => ?_, fun j1 j2 b hb1 hb2 => ?_, fun j => ?_, okn.hot⟩
        · rw [upd_ne (ne_of_none q hidl.2.1)]; exact okn.st.all b u q
        · have nb : b ≠ l := fun z => by rw [z, hidl.1] at q; cases q
          rw [upd_ne nb]; exact okn.st.sub b u q
        · rw [List.getElem?_set] at hz
          by_cases hj : k = j
          · subst hj
            rw [if_pos rfl, if_pos hk] at hz
            have ez : VL.D.lst (xs ++ [d]) = z := by simpa using hz
            subst ez
            refine ⟨.ref l, h1, ?_⟩
            rw [hG, if_pos rfl]
            refine Own.succ.mpr ⟨l, vs ++ [v], G ++ Fr, rfl, rfl, upd_same, ?_⟩
            have m1 : Owns (sta X h) H' Hs' xs n vs G := h4.move st'.shr _ _ _ _ fun a ha => by
              obtain ⟨u, hu⟩ := h4.there a ha
              rw [hu, st'.all a u hu]
            refine (m1.append (Owns.one o)).move (Same.refl _) _ _ _ _ fun a ha => upd_ne fun q => ?_
            subst q
            rcases List.mem_append.mp ha with ha | ha
            · have nd := okn.nd k
              rw [h2] at nd
              exact (List.nodup_cons.mp nd).1 ha
            · exact nlF ha
          · rw [if_neg hj] at hz
            obtain ⟨w, q1, q2⟩ := okn.slot j z hz
            refine ⟨w, q1, ?_⟩
            rw [if_neg (Ne.symm hj)]
            exact q2.move (Same.refl _) _ _ _ _ fun a ha => upd_ne fun q => by
              subst q
              exact hj (okn.disj k j a lF ha)
        · by_cases hj : j = k
          · rw [if_pos hj] at hb
            have cases3 : b = l ∨ b ∈ G ∨ b ∈ Fr := by
              rcases List.mem_cons.mp hb with q | hb
              · exact .inl q
              · exact .inr (List.mem_append.mp hb)
            rcases cases3 with q | q | q
            · rw [q]; exact ⟨hidl.1, hidl.2.1, _, upd_same⟩
            · have z := okn.hid k b (by rw [h2]; exact List.mem_cons_of_mem _ q)
              refine ⟨z.1, z.2.1, ?_⟩
              by_cases bl : b = l
              · rw [bl]; exact ⟨_, upd_same⟩
              · rw [upd_ne bl]; exact z.2.2
            · obtain ⟨u, hu⟩ := o.there d n v Fr b q
              refine ⟨(st'.fr b q).2, ok.st.all.free (st'.fr b q).1, ?_⟩
              rw [upd_ne (fun z => nlF (by rw [← z]; exact q))]
              exact ⟨u, hu⟩
          · rw [if_neg hj] at hb
            have z := okn.hid j b hb
            refine ⟨z.1, z.2.1, ?_⟩
            rw [upd_ne (fun q => hj (okn.disj j k b hb (by rw [q]; exact lF)))]
            exact z.2.2
        · have key : ∀ j b, b ∈ (if j = k then l :: (G ++ Fr) else F j) → b ∈ F j ∨ (j = k ∧ b ∈ Fr) := fun j b hb => by
            by_cases hj : j = k
            · rw [if_pos hj] at hb
              rcases List.mem_cons.mp hb with q | hb
              · left; rw [q, hj]; exact lF
              · rcases List.mem_append.mp hb with q | q
                · left; rw [hj, h2]; exact List.mem_cons_of_mem _ q
                · exact .inr ⟨hj, q⟩
            · rw [if_neg hj] at hb; exact .inl hb
          have no : ∀ j b, b ∈ F j → b ∉ Fr := fun j b hb q => by
            obtain ⟨_, _, u, hu⟩ := ok.hid j b hb
            rw [(st'.fr b q).1] at hu; cases hu
          rcases key j1 b hb1 with q1 | ⟨q1, r1⟩ <;> rcases key j2 b hb2 with q2 | ⟨q2, r2⟩
          · exact okn.disj j1 j2 b q1 q2
          · exact absurd r2 (no j1 b q1)
          · exact absurd r1 (no j2 b q2)
          · rw [q1, q2]
        · by_cases hj : j = k
          · simp only [hj, if_true]
            have nd := okn.nd k
            rw [h2] at nd
            obtain ⟨n1, n2⟩ := List.nodup_cons.mp nd
            refine List.nodup_cons.mpr ⟨fun q => ?_, List.nodup_append.mpr ⟨n2, st'.nd, fun x hx y hy q => ?_⟩⟩
            · rcases List.mem_append.mp q with q | q
              · exact n1 q
              · exact nlF q
            · subst q
              obtain ⟨_, _, u, hu⟩ := ok.hid k x (by rw [h2]; exact List.mem_cons_of_mem _ hx)
              rw [(st'.fr x hy).1] at hu; cases hu
          · simp only [hj, if_false]; exact okn.nd j
      exact kk σ _ Hs' _ (by rw [hS]; exact eo)
    · exact kk.elim
end
end VL
/-! VLSt2: stores, loops, errors, defs. -/
namespace VL
open PySem PySem.Spec L2
section
variable {X : Cx} {c : Ct} {W : WX} {Γ Γ' Γ1 Γ2 : List Nat} {h : Option (Nat × Addr × Er)} {a b e tg iter : Expr} {st : Stmt} {sts rest body orelse : List Stmt} {ma mb : M D} {qa : M Bool} {m m1 m2 : Env → Fl} {n na nb k i : Nat} {pos p : Pos} {x : Str} {bd : Bd} {sl : List Nat} {mi : M (List D)}
/-- the owned list in the slot k holds ys now (items shared) -/
theorem EOk.list1 {S : Sta} {H0 G0 H Hs : Hp} {F : Nat → List Addr} {σ : L2.St} {η : Env} {l : Addr} {ws : List V} {xs ys : List D} (ok : EOk S H0 G0 H Hs Γ F σ η) (hG : Γ.getD k 0 = 1) (h1 : σ[k]? = some (some (.ref l))) (h2 : F k = [l]) (e1 : η[k]? = some (some (.lst xs))) (r : Reps S Hs ys ws) :
    EOk S H0 G0 (upd H l (.lst ws)) Hs Γ F σ (η.set k (some (.lst ys))) where
  st := by
    have lF : l ∈ F k := by rw [h2]; exact List.mem_cons_self
    obtain ⟨q1, q2, q3⟩ := ok.hid k l lF
    refine ⟨fun b u q => ?_, ok.st.shr, fun b u q => ?_, ok.st.new, fun _ z => absurd z List.not_mem_nil, List.nodup_nil⟩
    · rw [upd_ne (ne_of_none q q2)]; exact ok.st.all b u q
    · have nb : b ≠ l := fun z => by rw [z, q1] at q; cases q
      rw [upd_ne nb]; exact ok.st.sub b u q
  len := by rw [List.length_set, ok.len]
  slot := fun j z hz => by
    have lF : l ∈ F k := by rw [h2]; exact List.mem_cons_self
    have hk : k < η.length := (List.getElem?_eq_some_iff.mp e1).1
    rw [List.getElem?_set] at hz
    by_cases hj : k = j
    · subst hj
      rw [if_pos rfl, if_pos hk] at hz
      have ez : VL.D.lst ys = z := by simpa using hz
      subst ez
      refine ⟨.ref l, h1, ?_⟩
      rw [hG, h2]
      exact Own.succ.mpr ⟨l, ws, [], rfl, rfl, upd_same, Owns.of_reps r⟩
    · rw [if_neg hj] at hz
      obtain ⟨w, q1, q2⟩ := ok.slot j z hz
      refine ⟨w, q1, q2.move (Same.refl _) _ _ _ _ fun a ha => upd_ne fun q => ?_⟩
      subst q
      exact hj (ok.disj k j a lF ha)
  hid := fun j b hb => by
    obtain ⟨q1, q2, u, hu⟩ := ok.hid j b hb
    refine ⟨q1, q2, ?_⟩
    by_cases bl : b = l
    · rw [bl]; exact ⟨_, upd_same⟩
    · rw [upd_ne bl]; exact ⟨u, hu⟩
  disj := ok.disj
  nd := ok.nd
  hot := ok.hot
theorem setD_ok {xs ys : List D} {i : Int} {d : D} (e : setD xs i d = some ys) : ∃ j, ixN xs.length i = some j ∧ ys = xs.set j d := by
  unfold setD at e
  obtain ⟨j, e1, e2⟩ := Option.map_eq_some_iff.mp e
  exact ⟨j, e1, e2.symm⟩
/-- x[i] = e, x a list of this frame's own whose items are shared -/
theorem s_set {p2 pt : Pos} (k : Nat) (hS : c.S = sta X h) (he : PE X e (tE (sta X h) c.W Γ ma na)) (hb : PE X b (tE (sta X h) c.W Γ mb nb)) (hG : Γ.getD k 0 = 1 := by rfl) (hN : X.N[k]? = some x := by rfl) (hv : Vis X.env.scope x := by first | exact Or.inl rfl | exact Or.inr (Or.inl rfl) | exact Or.inr (Or.inr rfl)) (hd : (x == ("__debug__" : Str)) = false := by decide) (hcd : (x == ("__classdict__" : Str)) = false := by decide)
    (hs : swapsWithSole [.Subscript (.Name x p2) b pt] e pos.line X.env = pure false := by rfl) (hw : swappedStores [.Subscript (.Name x p2) b pt] e X.env = pure none := by rfl) (h1 : (assignEach [.Subscript (.Name x p2) b pt] X.env).map (·.2) = [assign (.Subscript (.Name x p2) b pt) X.env] := by rfl)
    (hpg : ∀ {to ti : TE}, PE X (.Name x p2) to → PE X b ti → PG X (.Subscript (.Name x p2) b pt) (gSub to ti rSetL) := by intro _ _ h1 h2; exact pg_sub h1 h2 set_list) :
    PS X (.Assign [.Subscript (.Name x p2) b pt] e pos) (tS c Γ (sSet k mb ma) Γ) := impS (ps_asg he (hpg (pe_var hN hv hd hcd) hb) hs hw h1) fun D σ H w => by
  obtain ⟨H0, G0, Hs, F, η, ok, p⟩ := w
  have pp := onRes_post ok p
  rw [hS] at pp ok
  refine tE.use ok (pp.imp fun d kk v H1 Hs1 st1 rd ok1 => ?_)
  have okc : EOk c.S H0 G0 H1 Hs1 Γ F σ η := by rw [hS]; exact ok1
  obtain ⟨xs, e1, px⟩ := lstAt_ok (onRes_post okc kk)
  obtain ⟨l, vs, G, q1, q2, q3, q4⟩ := own_at ok1 hG e1
  obtain ⟨rfl, r4⟩ := q4.reps
  have pp2 := onRes_post okc px
  rw [hS] at pp2
  refine ⟨.ref l, q1, tE.use ok1 (pp2.imp fun y ky u H2 Hs2 st2 ru ok2 => ?_)⟩
  cases y <;> first | exact ky.elim | skip
  rename_i z
  have ky' : PostS c H0 G0 Γ (match setD xs z d with | some ys => Fl.nx (η.set k (some (.lst ys))) | none => .stuck) D := ky
  split at ky'
  · rename_i ys hy
    obtain ⟨j, hj, rfl⟩ := setD_ok hy
    unfold Rep at ru
    have r4' := r4.same st2.shr
    have q3' : H2 l = some (.lst vs) := st2.all _ _ q3
    refine ⟨l, vs, z, j, rfl, ru, q3', by rw [r4.length]; exact hj, ?_⟩
    have z := ok2.list1 hG q1 q2 e1 (r4'.set j (rd.same st2.shr))
    exact ky' σ _ Hs2 F (by rw [hS]; exact z)
  · exact ky'.elim
/-- x op= e -/
theorem pip_of {op : Operator} {r : R2} (h : OpR X (inplaceOp op) r) : PIp X op r := h
theorem s_aug {op : Operator} {r : R2} {f : D → D → Res D} {p2 : Pos} (i : Nat) (hS : c.S = sta X h) (hN : X.N.Nodup) (ho : OpR X (inplaceOp op) r) (hf : OpD (sta X h) r f 0) (he : PE X e (tE (sta X h) c.W Γ ma na)) (hg : Γ.getD i 0 = 0 := by rfl) (hi : X.N[i]? = some x := by rfl) (hx : Loc X.env.scope x := by first | exact Or.inl rfl | exact Or.inr rfl)
    (hfn : X.fn x = true ∨ X.env.scope.names.lookup x = some .local := by first | exact .inl rfl | exact .inr rfl | assumption) (hh : coolAt h i = true := by rfl) : PS X (.AugAssign (.Name x p2) op e pos) (tS c Γ (sAug i f ma) Γ) := impS (ps_aug hN hi hx he (pip_of ho) hfn) fun D σ H w => by
  obtain ⟨H0, G0, Hs, F, η, ok, p⟩ := w
  have pp := onRes_post ok p
  rw [hS] at pp ok
  have pv := Post.bind pp
  unfold dVar at pv
  split at pv
  · rename_i d hd
    obtain ⟨v, h1, h2⟩ := ok.slot i d hd
    rw [hg] at h2
    obtain ⟨-, h3⟩ := Own.zero.mp h2
    have pv' : Post (sta X h) c.W σ H ((ma η).bind fun y => f d y) _ := pv
    refine ⟨v, h1, tE.use ok ((Post.bind pv').imp fun y py u H1 Hs1 st1 r1 ok1 => ?_)⟩
    refine hf c.W σ H1 Hs1 d y v u _ ok1.sub (h3.same st1.shr) r1 ((py.up st1.all).imp fun z kk v2 H2 Hs2 Fr st2 o2 => ?_)
    have hle : i < η.length := (List.getElem?_eq_some_iff.mp hd).1
    rw [if_pos hle] at kk
    have z := (ok1.bindH (coolAt_of hh) st2 o2 (.inr ⟨rfl, hg⟩)).cong fun j => (set_zero hg j).symm
    exact kk _ H2 Hs2 _ (by rw [hS]; exact z)
  · exact pv.elim
/-! entered anew: what is shared now is the ground -/
def joinH (H0 Hs : Hp) : Hp := fun a => match Hs a with
  | some o => some o
  | none => H0 a
section
variable {S : Sta} {H0 G0 H2 Hs2 H' Hs' : Hp} {F F' : Nat → List Addr} {σ σ' : L2.St} {η η' : Env} {Fr : List Addr}
theorem join_none {a : Addr} (h : joinH H0 Hs2 a = none) : Hs2 a = none ∧ H0 a = none := by
  unfold joinH at h
  split at h
  · cases h
  · rename_i e; exact ⟨e, h⟩
theorem EOk.enter (ok : EOk S H0 G0 H2 Hs2 Γ F σ η) : EOk S (joinH H0 Hs2) Hs2 H2 Hs2 Γ F σ η :=
  ⟨⟨fun a o e => by
    unfold joinH at e
    split at e
    · rename_i q; cases e; exact ok.sub a _ q
    · exact ok.st.all a o e, Same.refl _, ok.sub, fun a h _ => h, fun _ z => absurd z List.not_mem_nil, List.nodup_nil⟩, ok.len, ok.slot, fun i a ha => by
    obtain ⟨h1, h2, h3⟩ := ok.hid i a ha
    refine ⟨h1, ?_, h3⟩
    unfold joinH
    rw [h1]
    exact h2, ok.disj, ok.nd, ok.hot⟩
theorem Step.leave (ok : EOk S H0 G0 H2 Hs2 Γ F σ η) (s : Step (joinH H0 Hs2) Hs2 H' Hs' Fr) : Step H0 G0 H' Hs' Fr := by
  have sj : Same H0 (joinH H0 Hs2) := fun a o e => by
    unfold joinH
    split
    · rename_i u q
      have h1 := ok.sub a u q
      have h2 := ok.st.all a o e
      rw [h1] at h2
      exact h2
    · exact e
  exact ⟨sj.trans s.all, ok.st.shr.trans s.shr, s.sub, fun a h1 ⟨o, h2⟩ => s.new a (ok.st.new a h1 ⟨o, h2⟩) ⟨o, sj a o h2⟩, fun a ha => ⟨(join_none (s.fr a ha).1).2, (s.fr a ha).2⟩, s.nd⟩
theorem EOk.leave (ok : EOk S H0 G0 H2 Hs2 Γ F σ η) (ok' : EOk S (joinH H0 Hs2) Hs2 H' Hs' Γ' F' σ' η') : EOk S H0 G0 H' Hs' Γ' F' σ' η' :=
  ⟨Step.leave ok ok'.st, ok'.len, ok'.slot, fun i a ha => by
    obtain ⟨h1, h2, h3⟩ := ok'.hid i a ha
    exact ⟨h1, (join_none h2).2, h3⟩, ok'.disj, ok'.nd, ok'.hot⟩
end
theorem s_for (fl : List Bool) (hS : c.S = sta X h) (hp : PassesOwn (model X.prog X.w) X.A X.env X.xe) (hc : X.calm = true) (hi : PI X tg iter (tI (sta X h) c.W Γ mi)) (hg : PG X tg (gB (sta X h) Γ bd sl)) (hG : keepG Γ (fun i => fl.getD i false) = Γ')
    (hb : PSs X body (tS { c with Γb := Γ', Γc := Γ } Γ m Γ)) (hs : ∀ z, foldedSetIterable iter X.env z = pure z := by intro _; rfl) : PS X (.For tg iter body [] pos) (tS c Γ (sFor mi bd m) Γ') := impS (ps_for hp hc hi hg hb hs) fun D σ H w => by
  obtain ⟨H0, G0, Hs, F, η, ok, p⟩ := w
  have pp := onRes_post ok p
  have okS := ok
  rw [hS] at pp ok
  refine ⟨H0, G0, Hs, F, η, ok, pp.imp fun ds kk J H1 Hs1 st1 wk => ?_⟩
  have ok1 := ok.step st1
  refine ⟨fun i mm σ' H' => mm = ds.length - i ∧ i ≤ ds.length ∧ ∃ (Hs' : Hp) (F' : Nat → List Addr) (η' : Env), EOk (sta X h) H0 G0 H' Hs' Γ F' σ' η' ∧ Same Hs1 Hs' ∧ PostS c H0 G0 Γ' (forGo bd m (ds.drop i) η') D, ⟨ds.length, rfl, Nat.zero_le _, Hs1, F, η, ok1, Same.refl _, kk⟩, ?_⟩
  rintro i mm σ' H' ⟨rfl, hi, Hs', F', η', ok', sm, go⟩
  obtain ⟨wk1, wk2⟩ := wk i H' Hs' sm ok'.sub
  by_cases hlt : i < ds.length
  · right
    have hx : ds[i]? = some ds[i] := List.getElem?_eq_getElem hlt
    obtain ⟨g1, g2⟩ := wk1 _ hx
    have hdrop : ds.drop i = ds[i] :: ds.drop (i + 1) := List.drop_eq_getElem_cons hlt
    rw [hdrop] at go
    unfold forGo at go
    refine ⟨g1, fun σ2 H2 => ∃ (Hs' : Hp) (F' : Nat → List Addr) (η' : Env), EOk (sta X h) H0 G0 H2 Hs' Γ F' σ2 η' ∧ Same Hs1 Hs' ∧ PostS c H0 G0 Γ' (forGo bd m (ds.drop (i + 1)) η') D, fun σ2 H2 h2 => ⟨ds.length - (i + 1), by omega, rfl, hlt, h2⟩, fun x H2 yl => ?_⟩
    obtain ⟨Hs2, st2, rx⟩ := g2 x H2 yl
    split at go
    · rename_i η1 hbd
      refine ⟨H0, G0, Hs2, F', η', ds[i], ok'.step st2, rx, η1, hbd, fun σ3 F3 ok3 _ _ => ?_⟩
      have okc : EOk c.S H0 G0 H2 Hs2 Γ F3 σ3 η1 := by rw [hS]; exact ok3
      refine ⟨joinH H0 Hs2, Hs2, Hs2, F3, η1, okc.enter, ?_⟩
      have next : ∀ {η5 : Env}, PostS c H0 G0 Γ' (forGo bd m (ds.drop (i + 1)) η5) D → ∀ (σ' : L2.St) (H' Hs' : Hp) (F' : Nat → List Addr), EOk c.S (joinH H0 Hs2) Hs2 H' Hs' Γ F' σ' η5 →
          ∃ (Hs' : Hp) (F' : Nat → List Addr) (η' : Env), EOk (sta X h) H0 G0 H' Hs' Γ F' σ' η' ∧ Same Hs1 Hs' ∧ PostS c H0 G0 Γ' (forGo bd m (ds.drop (i + 1)) η') D := fun {η5} q σ5 H5 Hs5 F5 ok5 =>
        ⟨Hs5, F5, η5, by rw [← hS]; exact okc.leave ok5, sm.trans (st2.shr.trans ok5.st.shr), q⟩
      cases e : m η1 with
      | nx η5 => rw [e] at go; exact next go
      | ct η5 => rw [e] at go; exact next go
      | bk η5 =>
        rw [e] at go
        exact fun σ5 H5 Hs5 F5 ok5 => go σ5 H5 Hs5 F5 (okc.leave ok5)
      | rt d =>
        rw [e] at go
        exact fun v H5 Hs5 Fr s5 o5 => go v H5 Hs5 Fr (Step.leave okc s5) o5
      | ex er η5 =>
        rw [e] at go
        exact fun cls dd σ5 H5 Hs5 F5 hcl ok5 => go cls dd σ5 H5 Hs5 F5 hcl (okc.leave ok5)
      | stuck => rw [e] at go; exact go
    · exact go.elim
  · left
    have e : i = ds.length := by omega
    subst e
    refine ⟨wk2 (List.getElem?_eq_none (Nat.le_refl _)), ?_⟩
    rw [List.drop_length] at go
    have go' : ∀ (σ' : L2.St) (H' Hs' : Hp) (F' : Nat → List Addr), EOk c.S H0 G0 H' Hs' Γ' F' σ' η' → D.nx σ' H' := go
    obtain ⟨Hs2, F2, ok2, _, _⟩ := ok'.froz fun i => fl.getD i false
    have ok3 : EOk c.S H0 G0 H' Hs2 Γ' F2 σ' η' := by rw [hS, ← hG]; exact ok2
    exact go' σ' H' Hs2 F2 ok3
theorem whileGo_mono {q : M Bool} {m : Env → Fl} : ∀ (n k : Nat) (η : Env), n ≤ k → whileGo q m n η ≠ .stuck → whileGo q m k η = whileGo q m n η
  | 0, _, _, _, h => absurd rfl h
  | n + 1, 0, _, hk, _ => absurd hk (by omega)
  | n + 1, k + 1, η, hk, h => by
    unfold whileGo at h ⊢
    cases hq : q η with
    | ok b =>
      rw [hq] at h
      cases b with
      | false => rfl
      | true =>
        have h' : (match m η with | .nx η' => whileGo q m n η' | .ct η' => whileGo q m n η' | .bk η' => .nx η' | r => r) ≠ .stuck := h
        show (match m η with | .nx η' => whileGo q m k η' | .ct η' => whileGo q m k η' | .bk η' => .nx η' | r => r) = (match m η with | .nx η' => whileGo q m n η' | .ct η' => whileGo q m n η' | .bk η' => .nx η' | r => r)
        cases e : m η with
        | nx η' => rw [e] at h'; exact whileGo_mono n k η' (by omega) h'
        | ct η' => rw [e] at h'; exact whileGo_mono n k η' (by omega) h'
        | bk η' => rfl
        | rt d => rfl
        | ex er η' => rfl
        | stuck => rfl
    | exc er => rfl
    | stuck => rfl
theorem sWhile_eq {q : M Bool} {m : Env → Fl} {η : Env} (n : Nat) (h : whileGo q m n η ≠ .stuck) : sWhile q m η = whileGo q m n η := by
  classical
  have ex : ∃ n, whileGo q m n η ≠ .stuck := ⟨n, h⟩
  have e : sWhile q m η = whileGo q m (Classical.choose ex) η := by
    unfold sWhile
    rw [dif_pos ex]
  rw [e]
  have h2 := Classical.choose_spec ex
  rcases Nat.le_total n (Classical.choose ex) with hl | hl
  · exact whileGo_mono n _ η hl h
  · exact (whileGo_mono _ n η hl h2).symm
theorem s_while {ce : Expr} (fl : List Bool) (hS : c.S = sta X h) (hp : PassesOwn (model X.prog X.w) X.A X.env X.xe) (hq : PT X ce (tQ (sta X h) c.W Γ qa)) (hG : keepG Γ (fun i => fl.getD i false) = Γ')
    (hb : PSs X body (tS { c with Γb := Γ', Γc := Γ } Γ m Γ)) : PS X (.While ce body [] pos) (tS c Γ (sWhile qa m) Γ') := impS (ps_while hp hq hb) fun D σ H w => by
  obtain ⟨H0, G0, Hs, F, η, ok, p⟩ := w
  obtain ⟨n0, hn0⟩ : ∃ n, whileGo qa m n η ≠ .stuck := by
    by_cases ex : ∃ n, whileGo qa m n η ≠ .stuck
    · exact ex
    · have e : sWhile qa m η = .stuck := by
        classical
        unfold sWhile
        rw [dif_neg ex]
      rw [e] at p
      exact p.elim
  rw [sWhile_eq n0 hn0] at p
  refine ⟨fun n σ' H' => ∃ (Hs' : Hp) (F' : Nat → List Addr) (η' : Env), EOk c.S H0 G0 H' Hs' Γ F' σ' η' ∧ PostS c H0 G0 Γ' (whileGo qa m n η') D, ⟨n0, Hs, F, η, ok, p⟩, ?_⟩
  rintro n σ1 H1 ⟨Hs1, F1, η1, ok1, p1⟩
  cases n with
  | zero => exact p1.elim
  | succ n =>
    unfold whileGo at p1
    have pp := onRes_post ok1 p1
    have okx := ok1
    rw [hS] at pp ok1
    refine tQ.use ok1 (pp.imp fun b kk H2 Hs2 st2 ok2 => ?_)
    have okc : EOk c.S H0 G0 H2 Hs2 Γ F1 σ1 η1 := by rw [hS]; exact ok2
    cases b with
    | true =>
      rw [if_pos rfl]
      have kk' : PostS c H0 G0 Γ' (match m η1 with | .nx η' => whileGo qa m n η' | .ct η' => whileGo qa m n η' | .bk η' => .nx η' | r => r) D := kk
      refine ⟨fun σ' H' => ∃ (Hs' : Hp) (F' : Nat → List Addr) (η' : Env), EOk c.S H0 G0 H' Hs' Γ F' σ' η' ∧ PostS c H0 G0 Γ' (whileGo qa m n η') D, fun σ' H' h => ⟨n, Nat.lt_succ_self _, h⟩, H0, G0, Hs2, F1, η1, okc, ?_⟩
      cases e : m η1 with
      | nx η5 => rw [e] at kk'; exact fun σ5 H5 Hs5 F5 ok5 => ⟨Hs5, F5, η5, ok5, kk'⟩
      | ct η5 => rw [e] at kk'; exact fun σ5 H5 Hs5 F5 ok5 => ⟨Hs5, F5, η5, ok5, kk'⟩
      | bk η5 => rw [e] at kk'; exact kk'
      | rt d => rw [e] at kk'; exact kk'
      | ex er η5 => rw [e] at kk'; exact kk'
      | stuck => rw [e] at kk'; exact kk'
    | false =>
      rw [if_neg Bool.false_ne_true]
      have kk' : ∀ (σ' : L2.St) (H' Hs' : Hp) (F' : Nat → List Addr), EOk c.S H0 G0 H' Hs' Γ' F' σ' η1 → D.nx σ' H' := kk
      obtain ⟨Hs3, F3, ok3, _, _⟩ := okc.froz fun i => fl.getD i false
      exact kk' σ1 H2 Hs3 F3 (by rw [← hG]; exact ok3)
/-! ### errors -/
/-- what the written part says of an error's class -/
structure ErC (K : PySem.W.Frag) (mg : Str → Option Value) (e : Er) (C : Addr) : Prop where
  g : mg e.name = some (.ref C)
  x : PySem.W.excIn K C He.veBase "ValueError.__new__" = true
  k : PySem.W.keepIn K (.ref C) = true
  s : PySem.W.subIn K (.ref C) (.type "BaseException") = some true
  t : PySem.W.typeIn K (.ref C) = some (.type "type")
theorem s_raise {x m' : Str} {j : Nat} {p1 p2 p3 : Pos} {C : Addr} (er : Er) (hx : er.name = x) (hS : c.S = sta X h) (hc : X.calm = true) (tk : Takes X c.W) (E : ErC X.K X.mg er C) (hg : Gl X x := by rfl) (hdb : (x == ("__debug__" : Str)) = false := by decide) :
    PS X (.Raise (some (.Call (.Name x p1) [.Constant (.str m') j p2] [] p3)) none pos) (tS c Γ (sRaise er) Γ') := by
  subst hx
  refine impS (ps_raise hc tk (pmk_own PySem.F.excBase_ValueError E.x E.g E.k (raises_own E.s E.t) hg hdb)) fun D σ H w => ?_
  obtain ⟨H0, G0, Hs, F, η, ok, p⟩ := w
  obtain ⟨Hs', F', h1, h2⟩ := ok.cold
  exact p (.ref C) none σ H Hs' F' ⟨rfl, C, rfl, by rw [hS]; exact E.g⟩ h1
end
end VL
/-! VLFn: try, isinstance of an error, defs. -/
namespace VL
open PySem PySem.Spec L2
/-- what the written part says of the errors' classes -/
structure ErT (K : PySem.W.Frag) (mg : Str → Option Value) : Prop where
  kit : ∀ (e c : Er) (A B : Addr), mg e.name = some (.ref A) → mg c.name = some (.ref B) → e.own = true → c.own = true → PySem.W.kitOne K (.ref A) (.ref B) = some (e.sub c)
  exm : ∀ (e c : Er) (A B : Addr), mg e.name = some (.ref A) → mg c.name = some (.ref B) → e.own = true → c.own = true → PySem.W.exmOne K (.ref A) (.ref B) = some (e.sub c)
  kitV : ∀ (e : Er) (A : Addr), mg e.name = some (.ref A) → e.own = true → PySem.W.kitOne K (.ref A) (.type "ValueError") = some true
  exc : ∀ (e : Er) (A : Addr), mg e.name = some (.ref A) → e.own = true → ExcC K A
  erc : ∀ (e : Er) (A : Addr), mg e.name = some (.ref A) → e.own = true → ErC K mg e A
theorem bt_ve : bootBuiltins "ValueError" = some (.type "ValueError") := by decide +kernel
section
variable {X : Cx} {c : Ct} {W : WX} {Γ Γ' Γ1 Γ2 Γh Γh' : List Nat} {a b e tg iter : Expr} {st b₀ : Stmt} {sts rest body suite : List Stmt} {ma mb : M D} {qa : M Bool} {m m1 m2 : Env → Fl} {n na nb k i : Nat} {pos pos' p p1 p2 np : Pos} {x y : Str}
theorem allz {l : List Nat} (h : l.all (· == 0) = true) : ∀ i, l.getD i 0 = 0 := fun i => by
  by_cases hi : i < l.length
  · have z := List.all_eq_true.mp h l[i] (List.getElem_mem hi)
    have z2 : l[i] = 0 := by simpa using z
    simp [List.getD, hi, z2]
  · simp [List.getD, hi]
theorem e_isEr {AE AC : Addr} {a : Addr} {oe : Obj} {pn : List (Addr × Obj)} {er : Er} (cr : Er) (i : Nat) (T : ErT X.K X.mg) (hz : Zc (.ref AE) none oe) (hf : ∃ vs, oe.data = .fields vs) (gE : X.mg er.name = some (.ref AE)) (ho : er.own = true) (gC : X.mg y = some (.ref AC)) (hcr : cr.name = y := by rfl) (hcro : cr.own = true := by rfl) (hm : X.mg "isinstance" = none)
    (hN : X.N[i]? = some x := by rfl) (hv : Vis X.env.scope x := by first | exact Or.inl rfl | exact Or.inr (Or.inl rfl) | exact Or.inr (Or.inr rfl)) (hd : (x == ("__debug__" : Str)) = false := by decide) (hcd : (x == ("__classdict__" : Str)) = false := by decide) (hg : Gl X "isinstance" := by rfl) (hgy : Gl X y := by rfl) (hdy : (y == ("__debug__" : Str)) = false := by decide)
    (hs : starEach [.Name x p1, .Name y p2] X.env = (false, eval (.Name x p1) X.env) :: starEach [.Name y p2] X.env := by rfl) (hs2 : starEach [.Name y p2] X.env = (false, eval (.Name y p2) X.env) :: starEach [] X.env := by rfl) (hpl : (backTo pos (starEach [.Name y p2] X.env)).any (·.1) = false := by rfl) :
    PE (X.suite a ((a, oe) :: pn)) (.Call (.Name "isinstance" p) [.Name x p1, .Name y p2] [] pos) (tE (sta X (some (i, a, er))) W Γ (dIsEr er cr) n) :=
  impE (pe_callB (X := X.suite a ((a, oe) :: pn)) (call_isE (T.exc er AE gE ho) hz hf) hg hm bt_isi (pa_cons (pe_var (X := X.suite a ((a, oe) :: pn)) hN hv hd hcd) (pa_cons (pe_glob (X := X.suite a ((a, oe) :: pn)) (v := .ref AC) hgy gC rfl hdy) pa_nil hs2) hs) (by decide) (by decide) hs hpl) fun σ H Q w => by
    obtain ⟨H0, G0, Hs, F, η, ok, pp⟩ := w
    unfold dIsEr at pp
    subst hcr
    rw [ho, hcro] at pp
    exact ⟨.ref a, ok.hot i a er rfl, .ref AC, .ref AC, _, rfl, fun u r => r, T.kit er cr AE AC gE gC ho hcro, pp _ H Hs [] (Step.refl ok.sub) (Own.scal rfl rep_bl)⟩
/-- isinstance(e, ValueError) -/
theorem e_isEv {AE : Addr} {a : Addr} {oe : Obj} {pn : List (Addr × Obj)} {er : Er} (i : Nat) (T : ErT X.K X.mg) (hz : Zc (.ref AE) none oe) (hf : ∃ vs, oe.data = .fields vs) (gE : X.mg er.name = some (.ref AE)) (ho : er.own = true) (hm : X.mg "isinstance" = none) (hmv : X.mg "ValueError" = none)
    (hN : X.N[i]? = some x := by rfl) (hv : Vis X.env.scope x := by first | exact Or.inl rfl | exact Or.inr (Or.inl rfl) | exact Or.inr (Or.inr rfl)) (hd : (x == ("__debug__" : Str)) = false := by decide) (hcd : (x == ("__classdict__" : Str)) = false := by decide) (hg : Gl X "isinstance" := by rfl) (hgy : Gl X "ValueError" := by rfl)
    (hs : starEach [.Name x p1, .Name "ValueError" p2] X.env = (false, eval (.Name x p1) X.env) :: starEach [.Name "ValueError" p2] X.env := by rfl) (hs2 : starEach [.Name "ValueError" p2] X.env = (false, eval (.Name "ValueError" p2) X.env) :: starEach [] X.env := by rfl) (hpl : (backTo pos (starEach [.Name "ValueError" p2] X.env)).any (·.1) = false := by rfl) :
    PE (X.suite a ((a, oe) :: pn)) (.Call (.Name "isinstance" p) [.Name x p1, .Name "ValueError" p2] [] pos) (tE (sta X (some (i, a, er))) W Γ (dLit (.bl true)) n) :=
  impE (pe_callB (X := X.suite a ((a, oe) :: pn)) (call_isE (T.exc er AE gE ho) hz hf) hg hm bt_isi (pa_cons (pe_var (X := X.suite a ((a, oe) :: pn)) hN hv hd hcd) (pa_cons (pe_bltn (X := X.suite a ((a, oe) :: pn)) (v := .ty "ValueError") hgy hmv bt_ve rfl (by decide) (by decide)) pa_nil hs2) hs) (by decide) (by decide) hs hpl) fun σ H Q w => by
    obtain ⟨H0, G0, Hs, F, η, ok, pp⟩ := w
    exact ⟨.ref a, ok.hot i a er rfl, .ty "ValueError", .type "ValueError", true, rfl, fun u r => r, T.kitV er AE gE ho, pp _ H Hs [] (Step.refl ok.sub) (Own.scal rfl rep_bl)⟩
theorem EOk.heat {K : PySem.W.Frag} {mg : Str → Option Value} {H0 G0 H Hs : Hp} {F : Nat → List Addr} {σ : L2.St} {η : Env} {ad : Addr} {er : Er} (ok : EOk ⟨K, mg, none⟩ H0 G0 H Hs Γ F σ η) (hi : i < η.length) : EOk ⟨K, mg, some (i, ad, er)⟩ H0 G0 H Hs Γ F (σ.set i (some (.ref ad))) (η.set i none) where
  st := ok.st
  len := by rw [List.length_set, List.length_set, ok.len]
  slot := fun j d h => by
    rw [List.getElem?_set] at h ⊢
    by_cases hj : i = j
    · rw [if_pos hj, if_pos hi] at h; cases h
    · rw [if_neg hj] at h ⊢
      obtain ⟨v, h1, h2⟩ := ok.slot j d h
      exact ⟨v, h1, h2.cool d _ v _⟩
  hid := ok.hid
  disj := ok.disj
  nd := ok.nd
  hot := fun j b f q => by
    cases q
    rw [List.getElem?_set, if_pos rfl, if_pos (by rw [ok.len]; exact hi)]
theorem EOk.cool {K : PySem.W.Frag} {mg : Str → Option Value} {h : Option (Nat × Addr × Er)} {H0 G0 H Hs : Hp} {F : Nat → List Addr} {σ : L2.St} {η : Env} (ok : EOk ⟨K, mg, h⟩ H0 G0 H Hs Γ F σ η) : EOk ⟨K, mg, none⟩ H0 G0 H Hs Γ F σ η where
  st := ok.st
  len := ok.len
  slot := fun j d q => by
    obtain ⟨v, h1, h2⟩ := ok.slot j d q
    exact ⟨v, h1, h2.cool d _ v _⟩
  hid := ok.hid
  disj := ok.disj
  nd := ok.nd
  hot := fun j b f q => by cases q
abbrev suiteCt (c : Ct) (S : Sta) (Γh' : List Nat) : Ct := { c with S := S, W := W0 }
theorem s_tryAs {mh : Er → Env → Fl} {AC : Addr} (fl : List Bool) (cr : Er) (i : Nat) (T : ErT X.K X.mg) (hS : c.S = sta X none) (hst : X.stack = X.env :: X.outer) (hfr : X.env.frame = some X.env.locals) (hN : X.N.Nodup) (gC : X.mg y = some (.ref AC)) (hcr : cr.name = y) (hcro : cr.own = true) (tk : Takes X c.W)
    (hz0 : Γh.all (· == 0) = true) (hz1 : Γ'.all (· == 0) = true) (hz2 : Γh'.all (· == 0) = true) (hG : keepG Γ1 (fun i => fl.getD i false) = Γ')
    (hb : ∀ (W : WX) (pn : List (Addr × Obj)) (xe : Value → Shared → Prop), Takes (X.tr pn xe) W → PassesOwn (model X.prog X.w) X.A X.env xe → PSs (X.tr pn xe) body (tS { c with W := W } Γ m Γ1))
    (hsu : ∀ (a : Addr) (oe : Obj) (pn : List (Addr × Obj)) (er : Er) (AE : Addr), er.own = true → X.mg er.name = some (.ref AE) → Zc (.ref AE) none oe → (∃ vs, oe.data = .fields vs) → PSs (X.suite a ((a, oe) :: pn)) (b₀ :: suite) (tS { c with S := sta X (some (i, a, er)), W := W0 } Γh (mh er) Γh'))
    (hi : X.N[i]? = some x := by rfl) (hln : X.env.kindOf x = some .local := by rfl) (hg : Gl X y := by rfl) (hdy : (y == ("__debug__" : Str)) = false := by decide) :
    PS X (.Try body [.ExceptHandler (some (.Name y np)) (some x) (b₀ :: suite) pos'] [] [] pos) (tS c Γ (sTryAs m cr i mh) Γ') := by
  refine impS (ps_try_as (tb := fun W => tS { c with W := W } Γ m Γ1) (ts := fun a cls d => fun D σ H => ∃ (er : Er) (AE : Addr), er.own = true ∧ X.mg er.name = some (.ref AE) ∧ cls = .ref AE ∧ d = none ∧ tS { c with S := sta X (some (i, a, er)), W := W0 } Γh (mh er) Γh' D σ H)
    (c := .ref AC) (Wout := c.W) hst hfr hN hi hln ⟨hg, hdy, .inl gC⟩ tk hb (fun a oe cls d pn hz hf => ⟨fun pins s σ H D I w => ?_⟩)) fun D σ H w => ?_
  · obtain ⟨er, AE, ho, gE, rfl, rfl, w⟩ := w
    exact (hsu a oe pn er AE ho gE hz hf).run pins s σ H D I w
  · obtain ⟨H0, G0, Hs, F, η, ok, p⟩ := w
    refine ⟨H0, G0, Hs, F, η, ok, ?_⟩
    unfold sTryAs at p
    cases e1 : m η with
    | nx η' =>
      rw [e1] at p
      intro σ' H' Hs' F' ok'
      obtain ⟨Hs2, F2, ok2, _, _⟩ := ok'.froz fun i => fl.getD i false
      exact p σ' H' Hs2 F2 (by rw [← hG]; exact ok2)
    | rt d => rw [e1] at p; exact p
    | bk η' => rw [e1] at p; exact p
    | ct η' => rw [e1] at p; exact p
    | stuck => rw [e1] at p; exact p.elim
    | ex er η' =>
      rw [e1] at p
      have p' : PostS c H0 G0 Γ' (if er.own = true ∧ i < η'.length then (if er.sub cr then goneFl i (mh er (η'.set i none)) else .ex er η') else .stuck) D := p
      split at p'
      · rename_i hh
        obtain ⟨ho, hil⟩ := hh
        intro cls dd σ' H' Hs' F' hcl ok'
        obtain ⟨rfl, AE, rfl, gE'⟩ := hcl
        have gE : X.mg er.name = some (.ref AE) := by
          have z : c.S.mg er.name = some (.ref AE) := gE'
          rw [hS] at z; exact z
        subst hcr
        refine ⟨er.sub cr, T.exm er cr AE AC gE gC ho hcro, fun hsb a ha => ?_, fun hsb => ?_⟩
        · rw [if_pos hsb] at p'
          have ok2 : EOk (sta X none) H0 G0 H' Hs' [] F' σ' η' := by rw [← hS]; exact ok'
          have ok3 := (ok2.cong (Γ2 := Γh) fun j => by rw [allz hz0 j]; rfl).heat (ad := a) (er := er) hil
          refine ⟨er, AE, ho, gE, rfl, rfl, H0, G0, Hs', F', η'.set i none, ok3, ?_⟩
          cases e2 : mh er (η'.set i none) with
          | nx η5 =>
            rw [e2] at p'
            intro σ5 H5 Hs5 F5 ok5
            have ok6 : EOk (sta X none) H0 G0 H5 Hs5 Γ' F5 (σ5.set i none) (η5.set i none) := ((ok5.cool).gone rfl).cong fun j => by rw [allz hz1 j, allz hz2 j]
            exact p' _ H5 Hs5 F5 (by rw [hS]; exact ok6)
          | bk η5 =>
            rw [e2] at p'
            intro σ5 H5 Hs5 F5 ok5
            have ok6 : EOk (sta X none) H0 G0 H5 Hs5 c.Γb F5 (σ5.set i none) (η5.set i none) := (ok5.cool).gone rfl
            exact p' _ H5 Hs5 F5 (by rw [hS]; exact ok6)
          | ct η5 =>
            rw [e2] at p'
            intro σ5 H5 Hs5 F5 ok5
            have ok6 : EOk (sta X none) H0 G0 H5 Hs5 c.Γc F5 (σ5.set i none) (η5.set i none) := (ok5.cool).gone rfl
            exact p' _ H5 Hs5 F5 (by rw [hS]; exact ok6)
          | rt d =>
            rw [e2] at p'
            intro v H5 Hs5 Fr s5 o5
            exact p' v H5 Hs5 Fr s5 (by rw [hS]; exact o5.cool d _ v _)
          | ex er2 η5 => rw [e2] at p'; exact p'.elim
          | stuck => rw [e2] at p'; exact p'.elim
        · rw [if_neg (by rw [hsb]; exact Bool.false_ne_true)] at p'
          exact p' (.ref AE) none σ' H' Hs' F' ⟨rfl, AE, rfl, gE'⟩ ok'
      · exact p'.elim
theorem s_tryOnly {mh : Env → Fl} {AC : Addr} (fl : List Bool) (cr : Er) (T : ErT X.K X.mg) (hS : c.S = sta X none) (hst : X.stack = X.env :: X.outer) (hfr : X.env.frame = some X.env.locals) (gC : X.mg y = some (.ref AC)) (hcr : cr.name = y) (hcro : cr.own = true) (tk : Takes X c.W)
    (hz0 : Γh.all (· == 0) = true) (hz1 : Γ'.all (· == 0) = true) (hz2 : Γh'.all (· == 0) = true) (hG : keepG Γ1 (fun i => fl.getD i false) = Γ')
    (hb : ∀ (W : WX) (pn : List (Addr × Obj)) (xe : Value → Shared → Prop), Takes (X.tr pn xe) W → PassesOwn (model X.prog X.w) X.A X.env xe → PSs (X.tr pn xe) body (tS { c with W := W } Γ m Γ1))
    (hsu : ∀ (a : Addr) (oe : Obj) (pn : List (Addr × Obj)), PSs (X.suite a ((a, oe) :: pn)) (b₀ :: suite) (tS { c with W := W0 } Γh mh Γh'))
    (hg : Gl X y := by rfl) (hdy : (y == ("__debug__" : Str)) = false := by decide) :
    PS X (.Try body [.ExceptHandler (some (.Name y np)) none (b₀ :: suite) pos'] [] [] pos) (tS c Γ (sTryOnly m cr mh) Γ') := by
  refine impS (ps_try_only (tb := fun W => tS { c with W := W } Γ m Γ1) (ts := fun a cls d => tS { c with W := W0 } Γh mh Γh')
    (c := .ref AC) (Wout := c.W) hst hfr ⟨hg, hdy, .inl gC⟩ tk hb (fun a oe cls d pn hz hf => hsu a oe pn)) fun D σ H w => ?_
  obtain ⟨H0, G0, Hs, F, η, ok, p⟩ := w
  refine ⟨H0, G0, Hs, F, η, ok, ?_⟩
  unfold sTryOnly at p
  cases e1 : m η with
  | nx η' =>
    rw [e1] at p
    intro σ' H' Hs' F' ok'
    obtain ⟨Hs2, F2, ok2, _, _⟩ := ok'.froz fun i => fl.getD i false
    exact p σ' H' Hs2 F2 (by rw [← hG]; exact ok2)
  | rt d => rw [e1] at p; exact p
  | bk η' => rw [e1] at p; exact p
  | ct η' => rw [e1] at p; exact p
  | stuck => rw [e1] at p; exact p.elim
  | ex er η' =>
    rw [e1] at p
    have p' : PostS c H0 G0 Γ' (if er.own then (if er.sub cr then noEx (mh η') else .ex er η') else .stuck) D := p
    split at p'
    · rename_i ho
      intro cls dd σ' H' Hs' F' hcl ok'
      obtain ⟨rfl, AE, rfl, gE'⟩ := hcl
      have gE : X.mg er.name = some (.ref AE) := by
        have z : c.S.mg er.name = some (.ref AE) := gE'
        rw [hS] at z; exact z
      subst hcr
      refine ⟨er.sub cr, T.exm er cr AE AC gE gC ho hcro, fun hsb a ha => ?_, fun hsb => ?_⟩
      · rw [if_pos hsb] at p'
        have ok3 := ok'.cong (Γ2 := Γh) fun j => by rw [allz hz0 j]; rfl
        refine ⟨H0, G0, Hs', F', η', ok3, ?_⟩
        cases e2 : mh η' with
        | nx η5 =>
          rw [e2] at p'
          exact fun σ5 H5 Hs5 F5 ok5 => p' _ H5 Hs5 F5 (ok5.cong fun j => by rw [allz hz1 j, allz hz2 j])
        | bk η5 => rw [e2] at p'; exact p'
        | ct η5 => rw [e2] at p'; exact p'
        | rt d => rw [e2] at p'; exact p'
        | ex er2 η5 => rw [e2] at p'; exact p'.elim
        | stuck => rw [e2] at p'; exact p'.elim
      · rw [if_neg (by rw [hsb]; exact Bool.false_ne_true)] at p'
        exact p' (.ref AE) none σ' H' Hs' F' ⟨rfl, AE, rfl, gE'⟩ ok'
    · exact p'.elim
end
/-! ### a def -/
abbrev bodyCt (K : PySem.W.Frag) (mg : Str → Option Value) (E : XK) (n : Nat) : Ct := ⟨⟨K, mg, none⟩, fun cls d _ H => E cls d H, n, [], []⟩
theorem fn_ok {P : Program} {w : World} {K : PySem.W.Frag} {mg : Str → Option Value} {base : Heap} {x qual : Str} {params : Arguments} {body : List Stmt} {scope : Scope} {dvs : List V} {kws : List (Str × V)} {fA : Addr} {fd : FuncData} {N ps : List Str} {k ar n : Nat} {m : Env → Fl} {Γ Γ' : List Nat}
    (F : FunD K x qual params body scope dvs kws fA fd) (Sc : FnScope N ps scope) (har : ps.length = ar) (hΓ : Γ.all (· == 0) = true)
    (hbody : ∀ (cdv : Value) (A : Around) (outer : List PySem.Env) (s : Shared) (H : Hp) (E : XK), Room k (A.deeper (PyProof.Rows.envOfC qual scope s.heap.objs.size fA cdv)) → PSs (cxOf (L2.CX P w) P w K mg base N qual scope fA cdv A outer s H E) body (tS (bodyCt K mg E n) Γ m Γ')) :
    FnOk P w K mg base (L2.CX P w) (k + 1) fA fd ps (spF ⟨K, mg, none⟩ ar (mkFn ar N.length m) n) := by
  refine F.ok Sc (fun vs H Q E h => ?_) (fun cdv A outer s H vs Q E hr h => ⟨tS (bodyCt K mg E n) Γ m Γ', hbody cdv A outer s H E hr, ?_⟩)
  · obtain ⟨ds, Hs, h1, h2, h3, _⟩ := h
    rw [h3.length, h1, har]
  · obtain ⟨ds, Hs, h1, h2, h3, post⟩ := h
    have hvl := h3.length
    unfold mkFn at post
    rw [if_pos h1] at post
    have eS : ∀ (i : Nat) (d : D), (ds.map some ++ List.replicate (N.length - ar) none : Env)[i]? = some (some d) → ds[i]? = some d := fun i d e => by
      rw [List.getElem?_append] at e
      split at e
      · simpa using e
      · rw [List.getElem?_replicate] at e
        split at e <;> cases e
    refine ⟨H, Hs, Hs, fun _ => [], ds.map some ++ List.replicate (N.length - ar) none, ⟨Step.refl h2, ?_, fun i d e => ?_, fun _ _ z => absurd z List.not_mem_nil, fun _ _ _ z => absurd z List.not_mem_nil, fun _ => List.nodup_nil, fun _ _ _ z => by cases z⟩, ?_⟩
    · unfold L2.start
      simp [hvl, h1]
    · obtain ⟨v, e1, e2⟩ := h3.get (eS i d e)
      refine ⟨v, ?_, ?_⟩
      · unfold L2.start
        have hlt : i < vs.length := (List.getElem?_eq_some_iff.mp e1).1
        rw [List.getElem?_append_left (by simpa using hlt)]
        simp [e1]
      · rw [allz hΓ i]
        exact e2.own
    · cases e : m (ds.map some ++ List.replicate (N.length - ar) none) with
      | nx η' =>
        rw [e] at post
        have post' : ∀ (v : V) (H' Hs' : Hp) (Fr : List Addr), Step H Hs H' Hs' Fr → Own ⟨K, mg, none⟩ H' Hs' .non n v Fr → Q v H' := post
        exact fun σ' H' Hs' F' ok' => post' .non H' Hs' [] ok'.st ((Own.other rfl).mpr ⟨rfl, by unfold Rep; rfl⟩)
      | rt d => rw [e] at post; exact post
      | ex er η' =>
        rw [e] at post
        have post' : ∀ (cls : Value) (d : Option Addr) (H' : Hp), clsIs ⟨K, mg, none⟩ er cls d → Same H H' → E cls d H' := post
        exact fun cls dd σ' H' Hs' F' hcl ok' => post' cls dd H' hcl ok'.st.all
      | bk η' => rw [e] at post; exact post.elim
      | ct η' => rw [e] at post; exact post.elim
      | stuck => rw [e] at post; exact post.elim
theorem spF_imp {S : Sta} {ar n : Nat} {f g : List D → Res D} (h : ∀ ds, ds.length = ar → g ds ≠ .stuck → f ds = g ds) : ∀ vs H Q E, spF S ar g n vs H Q E → spF S ar f n vs H Q E := fun vs H Q E ⟨ds, Hs, h1, h2, h3, p⟩ => by
  refine ⟨ds, Hs, h1, h2, h3, ?_⟩
  rw [h ds h1 (fun e => by rw [e] at p; exact p.elim)]
  exact p
section
variable {P : Program} {w : World} {K : PySem.W.Frag} {mg : Str → Option Value} {base : Heap} {x : Str} {k ar n : Nat} {f g : List D → Res D} {dfl : List D}
/-- what a def does may be said in other words -/
theorem FnS.imp (F : FnS P w K mg base x k ar f n dfl) (h : ∀ ds, ds.length = ar → g ds ≠ .stuck → f ds = g ds) : FnS P w K mg base x k ar g n dfl := by
  obtain ⟨fA, fd, ps, ds, dvs, h1, h2, h3, h4, h5, h6⟩ := F.ex
  exact ⟨fA, fd, ps, ds, dvs, h1, h2, h3.imp (spF_imp h), h4, h5, h6⟩
end
/-! ### a call with all arguments written -/
section
variable {X : Cx} {W : WX} {Γ : List Nat} {e : Expr} {es : List Expr} {mas : M (List D)} {n k j ar : Nat} {pos p : Pos} {x : Str} {f : List D → Res D}
theorem e_fn {h : Option (Nat × Addr × Er)} (F : FnS X.prog X.w X.K X.mg X.base x k ar f n []) (hr : Room j X.A) (hk : k ≤ j) (tk : Takes X W) (ha : PA X (e :: es) (tA (sta X h) W Γ mas)) (hml : ∀ η ds, mas η = .ok ds → ds.length = es.length + 1) (hlen : es.length + 1 + 0 = ar := by rfl) (hg : Gl X x := by rfl) (hdb : (x == ("__debug__" : Str)) = false := by decide)
    (he : starEach (e :: es) X.env = (false, eval e X.env) :: starEach es X.env := by rfl) (hpl : (backTo pos (starEach es X.env)).any (·.1) = false := by rfl) :
    PE X (.Call (.Name x p) (e :: es) [] pos) (tE (sta X h) W Γ (dCall f mas) n) := by
  have h1 := e_call (p := p) (pos := pos) F (hr.mono hk) tk ha hlen hml hg hdb he hpl
  have e1 : (fun as => f (as ++ [])) = f := funext fun as => by rw [List.append_nil]
  rw [e1] at h1
  exact h1
end
/-! ### what no def of the module hides -/
structure Blt (mg : Str → Option Value) : Prop where
  abs : mg "abs" = none
  len : mg "len" = none
  max : mg "max" = none
  min : mg "min" = none
  sum : mg "sum" = none
  isi : mg "isinstance" = none
  int : mg "int" = none
  bool : mg "bool" = none
  str : mg "str" = none
  list : mg "list" = none
  tuple : mg "tuple" = none
  range : mg "range" = none
  reversed : mg "reversed" = none
  enumerate : mg "enumerate" = none
  zip : mg "zip" = none
  sorted : mg "sorted" = none
  any : mg "any" = none
  all : mg "all" = none
  ve : mg "ValueError" = none
  dict : mg "dict" = none
def bltFa : List He.Fa := [.free "abs", .free "len", .free "max", .free "min", .free "sum", .free "isinstance", .free "int", .free "bool", .free "str", .free "list", .free "tuple", .free "range", .free "reversed", .free "enumerate", .free "zip", .free "sorted", .free "any", .free "all", .free "ValueError", .free "dict"]
/-! ### the errors' classes off the written part -/
def allEr : List Er := [.purse, .range, .malformed, .refused, .notThere, .spent, .badLine]
def erAt (K : PySem.W.Frag) (e : Er) : Option (Option Addr) := match PySem.W.nsIn K mainGlobals e.name with
  | some (some (.ref C)) => some (some C)
  | some none => some none
  | _ => none
def excB (K : PySem.W.Frag) (D : Addr) : Bool := (((decide (PySem.W.findIn K (.ref D) "__getattribute__" = some (some (.builtin "BaseException.__getattribute__"))) && decide (PySem.W.findIn K (.ref D) "__getattr__" = some none)) && (decide (PySem.W.subIn K (.ref D) (.type "BaseException") = some true) && PySem.W.hasDictIn K D)) &&
  ((decide (PySem.W.findIn K (.ref D) "__class__" = some (some (.builtin "object.__class__"))) && decide (PySem.W.specialIn K (.builtin "object.__class__") "__get__" = some (some (.builtin "getset_descriptor.__get__")))) && (decide (PySem.W.takesIn K (.builtin "object.__class__") = some true) && decide (PySem.W.mroIn K D (.type "object") = some true)))) &&
  ((PySem.W.excIn K D He.veBase "ValueError.__new__" && PySem.W.keepIn K (.ref D)) && (decide (PySem.W.typeIn K (.ref D) = some (.type "type")) && decide (PySem.W.kitOne K (.ref D) (.type "ValueError") = some true)))
def erPair (K : PySem.W.Frag) (e c : Er) (A B : Addr) : Bool := decide (PySem.W.kitOne K (.ref A) (.ref B) = some (e.sub c)) && decide (PySem.W.exmOne K (.ref A) (.ref B) = some (e.sub c))
def erB (K : PySem.W.Frag) : Bool := allEr.all fun e => match erAt K e with
  | some (some A) => excB K A && allEr.all fun c => match erAt K c with
    | some (some B) => erPair K e c A B
    | some none => true
    | none => false
  | some none => true
  | none => false
theorem own_mem : ∀ {e : Er}, e.own = true → e ∈ allEr := by
  intro e h
  cases e <;> first | (simp [allEr]; done) | (cases h)
theorem erAt_of {K : PySem.W.Frag} {h : Heap} {mg : Str → Option Value} (X : K.In h) (G : h.Ns mainGlobals mg) {e : Er} {A : Addr} (hm : mg e.name = some (.ref A)) (hB : erAt K e ≠ none) : erAt K e = some (some A) := by
  unfold erAt at hB ⊢
  cases q : PySem.W.nsIn K mainGlobals e.name with
  | none => rw [q] at hB; exact absurd rfl hB
  | some o =>
    cases o with
    | none =>
      have z := PySem.W.mg_none_of X G q
      rw [hm] at z; cases z
    | some v =>
      have z := PySem.W.mg_of X G q
      rw [hm] at z
      cases z
      rfl
theorem erT_of {K : PySem.W.Frag} {h : Heap} {mg : Str → Option Value} (X : K.In h) (G : h.Ns mainGlobals mg) (hB : erB K = true) : ErT K mg := by
  have at_ : ∀ {e : Er} {A : Addr}, mg e.name = some (.ref A) → e.own = true → erAt K e = some (some A) := fun {e A} hm ho => by
    refine erAt_of X G hm fun q => ?_
    have z := List.all_eq_true.mp hB e (own_mem ho)
    rw [q] at z
    cases z
  have one : ∀ {e : Er} {A : Addr}, mg e.name = some (.ref A) → e.own = true → (excB K A && allEr.all fun c => match erAt K c with
    | some (some B) => erPair K e c A B
    | some none => true
    | none => false) = true := fun {e A} hm ho => by
    have z := List.all_eq_true.mp hB e (own_mem ho)
    rw [at_ hm ho] at z
    exact z
  have two : ∀ {e c : Er} {A B : Addr}, mg e.name = some (.ref A) → mg c.name = some (.ref B) → e.own = true → c.own = true → erPair K e c A B = true := fun {e c A B} h1 h2 o1 o2 => by
    have z := List.all_eq_true.mp (Bool.and_eq_true_iff.mp (one h1 o1)).2 c (own_mem o2)
    rw [at_ h2 o2] at z
    exact z
  have ex : ∀ {e : Er} {A : Addr}, mg e.name = some (.ref A) → e.own = true → excB K A = true := fun {e A} hm ho => (Bool.and_eq_true_iff.mp (one hm ho)).1
  refine ⟨fun e c A B h1 h2 o1 o2 => ?_, fun e c A B h1 h2 o1 o2 => ?_, fun e A h1 o1 => ?_, fun e A h1 o1 => ?_, fun e A h1 o1 => ?_⟩
  · have z := two h1 h2 o1 o2
    unfold erPair at z
    simp only [Bool.and_eq_true, decide_eq_true_eq] at z
    exact z.1
  · have z := two h1 h2 o1 o2
    unfold erPair at z
    simp only [Bool.and_eq_true, decide_eq_true_eq] at z
    exact z.2
  · have z := ex h1 o1
    unfold excB at z
    simp only [Bool.and_eq_true, decide_eq_true_eq] at z
    exact z.2.2.2
  · have z := ex h1 o1
    unfold excB at z
    simp only [Bool.and_eq_true, decide_eq_true_eq] at z
    obtain ⟨⟨⟨⟨a1, a2⟩, a3, a4⟩, ⟨a5, a6⟩, a7, a8⟩, _⟩ := z
    exact ⟨a1, a2, a3, a4, a5, a6, a7, a8⟩
  · have z := ex h1 o1
    unfold excB at z
    simp only [Bool.and_eq_true, decide_eq_true_eq] at z
    obtain ⟨⟨⟨_, a3, _⟩, _⟩, ⟨b1, b2⟩, b3, _⟩ := z
    exact ⟨h1, b1, b2, a3, b3⟩
end VL
/-! VLKw: calls with defaults, with keywords. -/
namespace VL
open PySem PySem.Spec L2
def opAddI : D → D → Res D
  | .int i, .int j => .ok (.int (i + j))
  | _, _ => .stuck
theorem od_addI {S : Sta} {n : Nat} : OpD S (rI0 fun i j => .int (i + j)) opAddI n := opd_I0 fun a b => by
  cases a <;> cases b <;> first | exact Or.inr rfl | exact Or.inl ⟨_, _, rfl, rfl, rfl⟩
/-- a def called with keywords: np values written, the names ks behind -/
structure FnK (P : Program) (w : World) (K : PySem.W.Frag) (mg : Str → Option Value) (base : Heap) (x : Str) (k : Nat) (f : List D → List D → Res D) (n np : Nat) (ks : List Str) : Prop where
  ex : ∃ (fA : Addr) (fd : FuncData) (ps : List Str) (ar : Nat) (g : List D → Res D) (gD : List D → List D → List D) (hv : List Value → List Value → List Value) (gV : List V → List V → List V), mg x = some (.ref fA) ∧ PySem.W.keepIn K (.ref fA) = true ∧
    FnOk P w K mg base (L2.CX P w) k fA fd ps (spF ⟨K, mg, none⟩ ar g n) ∧ KBn K fd ps np ks hv gV ∧ (∀ as bs, as.length = np → bs.length = ks.length → f as bs = g (gD as bs) ∧ (gD as bs).length = ar) ∧ (∀ H as bs vs zs, Reps ⟨K, mg, none⟩ H as vs → Reps ⟨K, mg, none⟩ H bs zs → Reps ⟨K, mg, none⟩ H (gD as bs) (gV vs zs))
def dCallK (f : List D → List D → Res D) (a b : M (List D)) : M D := fun η => (a η).bind fun xs => (b η).bind fun ys => f xs ys
section
variable {X : Cx} {W : WX} {Γ : List Nat} {e : Expr} {es : List Expr} {mas mbs : M (List D)} {n k j np : Nat} {pos p : Pos} {x : Str} {f : List D → Res D} {fk : List D → List D → Res D} {dfl : List D} {kws : List Keyword} {ks : List Str}
theorem impK {t t' : TA} (h : PK X kws t) (i : ∀ σ H Q, t' σ H Q → t σ H Q) : PK X kws t' := ⟨fun pos pins s σ H Q I w => h.run pos pins s σ H Q I (i σ H Q w)⟩
theorem k_nil {h : Option (Nat × Addr × Er)} : PK X [] (tA (sta X h) W Γ aNil) := impK pk_nil fun σ H Q w => by
  obtain ⟨H0, G0, Hs, F, η, ok, p⟩ := w
  exact p [] H Hs (Step.refl ok.sub) (Reps.nil_iff.mpr rfl)
theorem k_cons {h : Option (Nat × Addr × Er)} {ma : M D} {na : Nat} {nm : Option Str} {kpos : Pos} (ha : PE X e (tE (sta X h) W Γ ma na)) (hr : PK X kws (tA (sta X h) W Γ mas)) : PK X (⟨nm, e, kpos⟩ :: kws) (tA (sta X h) W Γ (aCons ma mas)) := impK (pk_cons ha hr) fun σ H Q w => by
  obtain ⟨H0, G0, Hs, F, η, ok, p⟩ := w
  refine tE.use ok ((Post.bind p).imp fun d pd v H1 Hs1 st1 rd ok1 => ?_)
  refine tA.use ok1 (((Post.bind pd).up st1.all).imp fun ds pds vs H2 Hs2 st2 rs ok2 => ?_)
  exact pds _ H2 Hs2 (st1.trans st2) (Reps.cons_iff.mpr ⟨_, _, rfl, rd.same st2.shr, rs⟩)
theorem run_SK {CX : CXT} {fA : Addr} {fd : FuncData} {ps : List Str} {sp : Sp} {E : L2.St → XK} {g : List Value → List Value → List Value} {gV : List V → List V → List V} {pins : List (Addr × Obj)} {σ : L2.St} {H : Hp} {s : Shared} {Q : VK} {us ws : List Value} {vs zs : List V} (F : FnOk X.prog X.w X.K X.mg X.base CX k fA fd ps sp) (hr : Room k X.A) (hb : KBn X.K fd ps np ks g gV) (hx : PassesAt CX X σ (E σ))
    (I : Inv X pins σ H s) (r : Vals vs us) (rz : Vals zs ws) (l1 : vs.length = np) (l2 : zs.length = ks.length) (h : sp (gV vs zs) H Q (E σ)) : wpAny (model X.prog X.w) X.A (call (.ref fA) us (ks.zip ws)) (EP X pins σ Q) X.xe s := by
  have r2 := hb.rel r rz
  refine wpAny_call (codeAny_mono (F.run X.A X.stack s H ⟨us, ks.zip ws⟩ (g us ws) (gV vs zs) Q (E σ) hr I.env0 (hb.to s us ws I.kIn (r.length.symm.trans l1) (rz.length.symm.trans l2)) r2 h) fun r s' hq => ?_)
  cases r with
  | error e => exact hx pins H s e s' I hq
  | ok fl =>
    cases fl with
    | ret u => exact I.after hq
    | next => exact False.elim hq
    | brk => exact False.elim hq
    | cont => exact False.elim hq
theorem e_fnK {h : Option (Nat × Addr × Er)} (F : FnK X.prog X.w X.K X.mg X.base x k fk n np ks) (hr : Room j X.A) (hkj : k ≤ j) (tk : Takes X W) (ha : PA X (e :: es) (tA (sta X h) W Γ mas)) (hkw : PK X kws (tA (sta X h) W Γ mbs)) (hml : ∀ η ds, mas η = .ok ds → ds.length = es.length + 1) (hmk : ∀ η ds, mbs η = .ok ds → ds.length = kws.length) (hn : es.length + 1 = np := by rfl) (hkl : kws.length = ks.length := by rfl)
    (hall : (backToKw pos (keywordEach kws X.env)).all (·.1.isSome) = true := by rfl) (hks : (backToKw pos (keywordEach kws X.env)).filterMap (·.1) = ks := by rfl) (hg : Gl X x := by rfl) (hdb : (x == ("__debug__" : Str)) = false := by decide)
    (he : starEach (e :: es) X.env = (false, eval e X.env) :: starEach es X.env := by rfl) (hpl : ((backTo pos (starEach (e :: es) X.env)).any (·.1) || (backToKw pos (keywordEach kws X.env)).any (·.1.isNone)) = false := by rfl) :
    PE X (.Call (.Name x p) (e :: es) kws pos) (tE (sta X h) W Γ (dCallK fk mas mbs) n) := by
  obtain ⟨fA, fd, ps, ar, g, gD, hv, gV, hm, hk, G, hb, hf, hrep⟩ := F.ex
  refine ⟨fun pins s σ H Q I w => ?_⟩
  obtain ⟨H0, G0, Hs, F, η, ok, pp⟩ := w
  refine wpAny_Call_Name_kw (ld_glob I hg hm ?_ hdb)
  have w : tA (sta X h) W Γ mas σ H fun vs H1 => tA (sta X h) W Γ mbs σ H1 fun zs H2 => vs.length = np ∧ zs.length = ks.length ∧ spF ⟨X.K, X.mg, none⟩ ar g n (gV vs zs) H2 Q (WE W σ) := by
    refine tA.use ok ?_
    have pb := Post.bind pp
    cases hη : mas η with
    | ok as =>
      have hl := hml η as hη
      rw [hη] at pb
      refine fun vs H1 Hs1 st1 r1 ok1 => tA.use ok1 ?_
      have pc := (Post.bind (show Post (sta X h) W σ H ((mbs η).bind fun ys => fk as ys) _ from pb)).up st1.all
      cases hκ : mbs η with
      | ok bs =>
        have hl2 := hmk η bs hκ
        rw [hκ] at pc
        refine fun zs H2 Hs2 st2 r2 ok2 => ⟨by rw [r1.length, hl, hn], by rw [r2.length, hl2, hkl], gD as bs, Hs2, ?_, ok2.sub, hrep _ _ _ _ _ ((r1.same st2.shr).cool) (r2.cool), ?_⟩
        · exact (hf as bs (by rw [hl, hn]) (by rw [hl2, hkl])).2
        · have pd : Post (sta X h) W σ H (fk as bs) _ := pc
          rw [(hf as bs (by rw [hl, hn]) (by rw [hl2, hkl])).1] at pd
          exact post_swap (S := sta X h) pd (st1.trans st2).all (fun cls d H' q => q) fun d kk v H' Hs' Fr st o => kk v H' Hs' Fr ((st1.trans st2).trans st) (o.cool d _ v _)
      | exc er => rw [hκ] at pc; exact pc
      | stuck => rw [hκ] at pc; exact pc.elim
    | exc er => rw [hη] at pb; exact pb
    | stuck => rw [hη] at pb; exact pb.elim
  refine PySem.W.callWith_KW (h₀ := X.base) I.ok.mod.kin hk hall (thn (ha.run pos pins s σ H _ I w) fun us s1 ⟨vs, H1, I1, r, q⟩ => ?_) hpl he
  refine thn (hkw.run pos pins s1 σ H1 _ I1 q) fun ws s2 ⟨zs, H2, I2, rz, l1, l2, q2⟩ => ⟨I2.kIn, ?_⟩
  rw [hks]
  exact run_SK G (hr.mono hkj) hb (passAt tk σ) I2 r rz l1 l2 q2
/-- a call that leaves the defaults out -/
theorem e_fnD {h : Option (Nat × Addr × Er)} {ar : Nat} (F : FnS X.prog X.w X.K X.mg X.base x k ar f n dfl) (hr : Room j X.A) (hk : k ≤ j) (tk : Takes X W) (ha : PA X (e :: es) (tA (sta X h) W Γ mas)) (hml : ∀ η ds, mas η = .ok ds → ds.length = es.length + 1) (hlen : es.length + 1 + dfl.length = ar := by rfl) (hg : Gl X x := by rfl) (hdb : (x == ("__debug__" : Str)) = false := by decide)
    (he : starEach (e :: es) X.env = (false, eval e X.env) :: starEach es X.env := by rfl) (hpl : (backTo pos (starEach es X.env)).any (·.1) = false := by rfl) :
    PE X (.Call (.Name x p) (e :: es) [] pos) (tE (sta X h) W Γ (dCall (fun as => f (as ++ dfl)) mas) n) :=
  e_call (p := p) (pos := pos) F (hr.mono hk) tk ha hlen hml hg hdb he hpl
end
theorem FunD_kbinds1 {K : PySem.W.Frag} {x qual : Str} {params : Arguments} {body : List Stmt} {scope : Scope} {dvs : List V} {kws : List (Str × V)} {f : Addr} {fd : FuncData} {ps : List Str} (F : FunD K x qual params body scope dvs kws f fd) (n j : Nat) (ks : List Str) (hd : dvs ≠ [])
    (h : ∀ (T : Addr) (kV doc pm : Value) (an : Option Addr) (cdv ct : Value) (us its ws : List Value), us.length = n → its.length = dvs.length → ws.length = ks.length →
      ∃ k, bindArgs (PySem.W.fnOf x qual params body scope (.ref T) kV doc pm an cdv ct) ⟨us, ks.zip ws⟩ = seqItems? (.ref T) >>= k ∧ k (some its.toArray) = pure (ps.zip (us ++ ws ++ its.drop j))) :
    ∃ rs : List Value, KBn K fd ps n ks (fun us ws => us ++ ws ++ rs) (fun vs zs => vs ++ zs ++ dvs.drop j) := by
  obtain ⟨oc, od, dV, kV, doc, pm, an, cdv, ct, osl, rfl, lk, hcd, hD, hK⟩ := F.ex
  rcases hD with ⟨e, _⟩ | ⟨_, T, o, its, m, rfl, lT, oT, rT⟩
  · exact absurd e hd
  · refine ⟨its.drop j, ⟨fun s us ws X l1 l2 => ?_, fun r1 r2 => (r1.append r2).append (rT.drop j)⟩⟩
    obtain ⟨k, e1, e2⟩ := h T kV doc pm an cdv ct us its ws l1 rT.length.symm l2
    refine BindsTo.of_looks fun M => ?_
    rw [e1]
    exact looks_items X lT oT (.of_pure e2)
theorem Reps.dflt {S : Sta} {H : Hp} : Reps S H [] [] := Reps.nil_iff.mpr rfl
/-- a def as the calls take it -/
theorem FnS_of {P : Program} {w : World} {K : PySem.W.Frag} {mg : Str → Option Value} {base : Heap} {x : Str} {k ar n : Nat} {f : List D → Res D} {fA : Addr} {fd : FuncData} {ps : List Str} (g : mg x = some (.ref fA)) (kp : PySem.W.keepIn K (.ref fA) = true) (o : FnOk P w K mg base (L2.CX P w) k fA fd ps (spF ⟨K, mg, none⟩ ar f n)) (b : Binds K fd ps []) : FnS P w K mg base x k ar f n [] :=
  ⟨⟨fA, fd, ps, [], [], g, kp, o, .nil, fun _ => Reps.dflt, b⟩⟩
/-- .. with defaults left out -/
theorem FnS_d {P : Program} {w : World} {K : PySem.W.Frag} {mg : Str → Option Value} {base : Heap} {x : Str} {k ar n : Nat} {f : List D → Res D} {fA : Addr} {fd : FuncData} {ps : List Str} {dfl : List D} {dvs : List V} (g : mg x = some (.ref fA)) (kp : PySem.W.keepIn K (.ref fA) = true) (o : FnOk P w K mg base (L2.CX P w) k fA fd ps (spF ⟨K, mg, none⟩ ar f n)) (hr : ∀ H, Reps ⟨K, mg, none⟩ H dfl dvs) (b : ∃ ds, Vals dvs ds ∧ Binds K fd ps ds) : FnS P w K mg base x k ar f n dfl := by
  obtain ⟨ds, h1, h2⟩ := b
  exact ⟨⟨fA, fd, ps, ds, dvs, g, kp, o, h1, hr, h2⟩⟩
theorem FnK_of {P : Program} {w : World} {K : PySem.W.Frag} {mg : Str → Option Value} {base : Heap} {x : Str} {k ar n np : Nat} {f : List D → Res D} {fA : Addr} {fd : FuncData} {ps ks : List Str} {dfl : List D} {dvs : List V} (g : mg x = some (.ref fA)) (kp : PySem.W.keepIn K (.ref fA) = true) (o : FnOk P w K mg base (L2.CX P w) k fA fd ps (spF ⟨K, mg, none⟩ ar f n)) (hr : ∀ H, Reps ⟨K, mg, none⟩ H dfl dvs)
    (b : ∃ its : List Value, KBn K fd ps np ks (fun us ws => us ++ ws ++ its) (fun vs zs => vs ++ zs ++ dvs)) (hl : np + ks.length + dfl.length = ar) : FnK P w K mg base x k (fun as bs => f (as ++ bs ++ dfl)) n np ks := by
  obtain ⟨its, h1⟩ := b
  exact ⟨⟨fA, fd, ps, ar, f, fun as bs => as ++ bs ++ dfl, _, _, g, kp, o, h1, fun as bs l1 l2 => ⟨rfl, by rw [List.length_append, List.length_append, l1, l2]; exact hl⟩, fun H as bs vs zs r1 r2 => (r1.append r2).append (hr H)⟩⟩
end VL
/-! VLMore: ranges with a step, calls in a suite. -/
namespace VL
open PySem PySem.Spec L2
def rangeC (lo c : Int) (n : Nat) : List D := (List.range n).map fun (k : Nat) => D.int (lo + (k : Int) * c)
def rgOk (i j c : Int) : Bool := decide (c ≠ 0) && (decide (c.natAbs < 1073741824) && Builtin.Range.small i j c)
def iRange3 (a b c : M D) : M (List D) := fun η => (a η).bind fun x => (b η).bind fun y => (c η).bind fun z => match x, y, z with
  | .int i, .int j, .int k => if rgOk i j k then .ok (rangeC i k (Builtin.Range.rangeSize i j k).toNat) else .stuck
  | _, _, _ => .stuck
theorem walks_rangeC {S : Sta} {Hs : Hp} {lo c : Int} {n : Nat} : Walks S Hs (Itc lo c n) (rangeC lo c n) := fun i H' Hs' s1 s2 => by
  have e : (rangeC lo c n)[i]? = if i < n then some (D.int (lo + (i : Int) * c)) else none := by
    unfold rangeC
    by_cases hi : i < n
    · rw [if_pos hi]; simp [hi]
    · rw [if_neg hi]; simp; omega
  refine ⟨fun d hd => ?_, fun hn => ?_⟩
  · rw [e] at hd
    by_cases hi : i < n
    · rw [if_pos hi] at hd
      cases hd
      refine ⟨hi, fun x H'' y => ?_⟩
      obtain ⟨rfl, rfl⟩ := y
      exact ⟨Hs', Step.refl s2, rep_int⟩
    · rw [if_neg hi] at hd; cases hd
  · rw [e] at hn
    by_cases hi : i < n
    · rw [if_pos hi] at hn; cases hn
    · exact Nat.le_of_not_lt hi
section
variable {X : Cx} {W : WX} {Γ : List Nat} {h : Option (Nat × Addr × Er)} {tg a b c e : Expr} {es : List Expr} {ma mb mc : M D} {mas : M (List D)} {na nb nc n k j ar : Nat} {pos p : Pos} {x : Str} {f : List D → Res D}
theorem i_range3 (hm : X.mg "range" = none) (ha : PE X a (tE (sta X h) W Γ ma na)) (hb : PE X b (tE (sta X h) W Γ mb nb)) (hc : PE X c (tE (sta X h) W Γ mc nc)) (hg : Gl X "range" := by rfl)
    (hs : starEach [a, b, c] X.env = (false, eval a X.env) :: starEach [b, c] X.env := by rfl) (hs2 : starEach [b, c] X.env = (false, eval b X.env) :: starEach [c] X.env := by rfl) (hs3 : starEach [c] X.env = (false, eval c X.env) :: starEach [] X.env := by rfl) (hpl : (backTo pos (starEach [b, c] X.env)).any (·.1) = false := by rfl) :
    PI X tg (.Call (.Name "range" p) [a, b, c] [] pos) (tI (sta X h) W Γ (iRange3 ma mb mc)) := impI (pi_range3 hg hm (pa_cons ha (pa_cons hb (pa_cons hc pa_nil hs3) hs2) hs) hs hpl) fun σ H R w => by
  obtain ⟨H0, G0, Hs, F, η, ok, p⟩ := w
  refine tE.use ok ((Post.bind p).imp fun d pd v H1 Hs1 st1 rd ok1 => ?_)
  refine tE.use ok1 (((Post.bind pd).up st1.all).imp fun d2 pe v2 H2 Hs2 st2 rd2 ok2 => ?_)
  refine tE.use ok2 (((Post.bind pe).up (st1.trans st2).all).imp fun d3 pf v3 H3 Hs3 st3 rd3 ok3 => ?_)
  cases d <;> first | exact pf.elim | skip
  cases d2 <;> first | exact pf.elim | skip
  cases d3 <;> first | exact pf.elim | skip
  rename_i i j k
  have pd' : Post (sta X h) W σ H (if rgOk i j k then Res.ok (rangeC i k (Builtin.Range.rangeSize i j k).toNat) else .stuck) _ := pf
  split at pd'
  · rename_i hj
    unfold rgOk at hj
    simp only [Bool.and_eq_true, decide_eq_true_eq] at hj
    unfold Rep at rd rd2 rd3
    exact ⟨i, j, k, _, by rw [rd, rd2, rd3], ⟨hj.1, hj.2.1, hj.2.2, PyProof.Rows.rangeSize_toNat i j k⟩, pd' _ H3 Hs3 ((st1.trans st2).trans st3) walks_rangeC⟩
  · exact pd'.elim
/-- a call in a suite -/
theorem e_fnS (F : FnS X.prog X.w X.K X.mg X.base x k ar f n []) (hr : Room j X.A) (hk : k ≤ j) (tk : Takes X W) (ha : PA X (e :: es) (tA (sta X h) W Γ mas)) (hml : ∀ η ds, mas η = .ok ds → ds.length = es.length + 1) (hlen : es.length + 1 + 0 = ar := by rfl) (hg : Gl X x := by rfl) (hdb : (x == ("__debug__" : Str)) = false := by decide)
    (he : starEach (e :: es) X.env = (false, eval e X.env) :: starEach es X.env := by rfl) (hpl : (backTo pos (starEach es X.env)).any (·.1) = false := by rfl) :
    PE X (.Call (.Name x p) (e :: es) [] pos) (tE (sta X h) W Γ (dCall f mas) n) := by
  obtain ⟨fA, fd, ps, ds, dvs, hm, hkp, G, hd, hrep, hb⟩ := F.ex
  refine ⟨fun pins s σ H Q I w => ?_⟩
  obtain ⟨H0, G0, Hs, F, η, ok, pp⟩ := w
  refine wpAny_Call_Name_kw (ld_glob I hg hm ?_ hdb)
  have w : tA (sta X h) W Γ mas σ H fun vs H1 => spF ⟨X.K, X.mg, none⟩ ar f n (vs ++ dvs) H1 Q (WE W σ) := by
    cases hη : mas η with
    | ok as =>
      have hl := hml η as hη
      refine tA.use ok ?_
      have pb := Post.bind pp
      rw [hη] at pb ⊢
      refine fun vs H1 Hs1 st1 r1 ok1 => ⟨as ++ [], Hs1, by rw [List.length_append, hl]; exact hlen, ok1.sub, (r1.cool).append (hrep _), ?_⟩
      rw [List.append_nil]
      exact post_swap (S := sta X h) pb st1.all (fun cls d H' q => q) fun d kk v H' Hs' Fr st o => kk v H' Hs' Fr (st1.trans st) (o.cool d _ v _)
    | exc er =>
      refine tA.use ok ?_
      have pb := Post.bind pp
      rw [hη] at pb ⊢
      exact pb
    | stuck =>
      have pb := Post.bind pp
      rw [hη] at pb
      exact pb.elim
  refine PySem.W.callWith_K (h₀ := X.base) I.ok.mod.kin hkp (thn (ha.run pos pins s σ H _ I w) fun us s1 ⟨vs, H1, I1, r, q⟩ => ⟨I1.kIn, ?_⟩) he hpl
  exact run_S G (hr.mono hk) hb hd (passAt tk σ) I1 r q
end
end VL
/-! VLCls: instances that do not change once they are made: fields, methods, making. -/
namespace VL
open PySem PySem.Spec L2
/-! ### what the module says of its classes -/
def clsOkB (K : PySem.W.Frag) (C : Addr) : Bool := PySem.W.plainGet K C Str.empty && (PySem.W.hasDictIn K C && (PySem.W.plainOver K C && He.eqO (PySem.W.findIn K (.ref C) "__setattr__") (some (some (.builtin "object.__setattr__")))))
def clsB (K : PySem.W.Frag) : Bool := (List.range nCls).all fun c => match PySem.W.nsIn K mainGlobals (clsTab c).1 with
  | some (some (.ref C)) => clsOkB K C && (clsTab c).2.all fun f => He.eqO (PySem.W.findIn K (.ref C) f) (some none)
  | some none => true
  | _ => false
structure ClT (K : PySem.W.Frag) (mg : Str → Option Value) : Prop where
  cl : ∀ (c : Nat) (C : Addr), c < nCls → mg (clsTab c).1 = some (.ref C) → Cls K C ∧ ∀ f ∈ (clsTab c).2, NoAttr K C f
theorem clT_of {K : PySem.W.Frag} {h : Heap} {mg : Str → Option Value} (X : K.In h) (G : h.Ns mainGlobals mg) (hB : clsB K = true) : ClT K mg := ⟨fun c C hc hm => by
  have z := List.all_eq_true.mp hB c (List.mem_range.mpr hc)
  cases q : PySem.W.nsIn K mainGlobals (clsTab c).1 with
  | none => rw [q] at z; cases z
  | some o =>
    cases o with
    | none =>
      have y := PySem.W.mg_none_of X G q
      rw [hm] at y; cases y
    | some v =>
      have y := PySem.W.mg_of X G q
      rw [hm] at y
      cases y
      rw [q] at z
      have z' : (clsOkB K C && (clsTab c).2.all fun f => He.eqO (PySem.W.findIn K (.ref C) f) (some none)) = true := z
      obtain ⟨z1, z2⟩ := Bool.and_eq_true_iff.mp z'
      refine ⟨?_, fun f hf => He.eqO_ok (List.all_eq_true.mp z2 f hf)⟩
      unfold clsOkB at z1
      simp only [Bool.and_eq_true] at z1
      obtain ⟨a1, a2, a3, a4⟩ := z1
      exact ⟨a1, a2, a3, He.eqO_ok a4⟩⟩
/-! ### o.f -/
def fget : List Str → List D → Str → Option D
  | n :: ns, d :: ds, f => if n = f then some d else fget ns ds f
  | _, _, _ => none
def fldD (f : Str) : D → Res D
  | .ins c ds => if c < nCls then (match fget (clsTab c).2 ds f with | some d => .ok d | none => .stuck) else .stuck
  | _ => .stuck
theorem fget_ok {S : Sta} {H : Hp} {f : Str} {d : D} : ∀ {ns : List Str} {ds : List D} {fs : List (Str × V)}, fget ns ds f = some d → fs.map (·.1) = ns → Reps S H ds (fs.map (·.2)) → f ∈ ns ∧ ∃ v, fs.lookup f = some v ∧ Rep S H d v
  | [], _, _, h, _, _ => by cases h
  | n :: ns, [], _, h, _, _ => by cases h
  | n :: ns, e :: ds, [], h, q, _ => by cases q
  | n :: ns, e :: ds, (k, w) :: fs, h, q, r => by
    obtain ⟨v, ws, e1, r1, r2⟩ := Reps.cons_iff.mp r
    rw [List.map_cons, List.cons.injEq] at e1 q
    obtain ⟨e1, e2⟩ := e1
    obtain ⟨q1, q2⟩ := q
    have e1' : w = v := e1
    have q1' : k = n := q1
    subst e1' q1'
    have h' : (if k = f then some e else fget ns ds f) = some d := h
    by_cases hk : k = f
    · rw [if_pos hk] at h'
      cases h'
      subst hk
      exact ⟨List.mem_cons_self, w, List.lookup_cons_self, r1⟩
    · rw [if_neg hk] at h'
      rw [← e2] at r2
      obtain ⟨m, v2, l2, r3⟩ := fget_ok h' q2 r2
      refine ⟨List.mem_cons_of_mem _ m, v2, ?_, r3⟩
      have hb : (f == k) = false := by simpa using Ne.symm hk
      rw [List.lookup_cons, hb]
      exact l2
theorem fget_miss {m : Str} : ∀ {fs : List (Str × V)}, m ∉ fs.map (·.1) → fs.lookup m = none
  | [], _ => rfl
  | (k, v) :: fs, h => by
    rw [List.map_cons, List.mem_cons, not_or] at h
    have hb : (m == k) = false := by simpa using h.1
    rw [List.lookup_cons, hb]
    exact fget_miss h.2
section
variable {X : Cx} {W : WX} {Γ : List Nat} {h : Option (Nat × Addr × Er)} {e o : Expr} {es : List Expr} {ma mo : M D} {mas : M (List D)} {na no n k j ar c : Nat} {pos p apos : Pos} {x f m : Str} {F : List D → Res D} {dfl : List D}
theorem e_fld (f : Str) (T : ClT X.K X.mg) (he : PE X e (tE (sta X h) W Γ ma na)) (hb : attributeBase e f X.env (eval e X.env) = eval e X.env := by rfl) : PE X (.Attribute e f pos) (tE (sta X h) W Γ (dOp1 (fldD f) ma) 0) := impE (pe_fld he hb) fun σ H Q w => by
  obtain ⟨H0, G0, Hs, F, η, ok, p⟩ := w
  refine tE.use ok ((Post.bind p).imp fun d pd v H1 Hs1 st1 rd ok1 => ?_)
  cases d <;> first | exact pd.elim | skip
  rename_i c ds
  have pd' : Post (sta X h) W σ H (if c < nCls then (match fget (clsTab c).2 ds f with | some d => Res.ok d | none => .stuck) else .stuck) _ := pd
  by_cases hc : c < nCls
  · rw [if_pos hc] at pd'
    cases hg : fget (clsTab c).2 ds f with
    | none => rw [hg] at pd'; exact pd'.elim
    | some d =>
      rw [hg] at pd'
      unfold Rep at rd
      obtain ⟨a, C, dx, fs, rfl, hm, hH, hf, hr⟩ := rd
      obtain ⟨hmem, v2, hl, r2⟩ := fget_ok hg hf hr
      obtain ⟨c1, c2⟩ := T.cl c C hc hm
      exact ⟨a, C, dx, fs, v2, rfl, ok1.sub _ _ hH, c1, c2 f hmem, hl, pd' v2 H1 Hs1 [] st1 r2.own⟩
  · rw [if_neg hc] at pd'; exact pd'.elim
/-! ### o.m(..) -/
structure FnM (P : Program) (w : World) (K : PySem.W.Frag) (mg : Str → Option Value) (base : Heap) (c : Nat) (m : Str) (k ar : Nat) (f : List D → Res D) (n : Nat) (dfl : List D) : Prop where
  ex : ∃ (C fA : Addr) (fd : FuncData) (ps : List Str) (ds : List Value) (dvs : List V), mg (clsTab c).1 = some (.ref C) ∧ Cls K C ∧ Meth K C m fA ∧
    FnOk P w K mg base (L2.CX P w) k fA fd ps (spF ⟨K, mg, none⟩ ar f n) ∧ Vals dvs ds ∧ (∀ H, Reps ⟨K, mg, none⟩ H dfl dvs) ∧ Binds K fd ps ds
def isIns (c : Nat) : D → Res Unit
  | .ins i _ => if i = c then .ok () else .stuck
  | _ => .stuck
def dMeth (c : Nat) (f : List D → Res D) (mo : M D) (mas : M (List D)) : M D := fun η => (mo η).bind fun x => (isIns c x).bind fun _ => (mas η).bind fun as => f (x :: as)
theorem meth_read {C : Addr} {dvs : List V} {Q : VK} {σ : L2.St} {H : Hp} (hm : X.mg (clsTab c).1 = some (.ref C)) (hrep : ∀ H, Reps ⟨X.K, X.mg, none⟩ H dfl dvs) (hml : ∀ η ds, mas η = .ok ds → ds.length = j) (hlen : j + 1 + dfl.length = ar) (hcm : m ∉ (clsTab c).2)
    (w : tE (sta X h) W Γ (dMeth c (fun as => F (as ++ dfl)) mo mas) n σ H Q) : tE (sta X h) W Γ mo no σ H fun x H1 => ∃ a dx fs, x = .ref a ∧ H1 a = some (.ins C dx fs) ∧ fs.lookup m = none ∧ tA (sta X h) W Γ mas σ H1 fun vs H2 => spF ⟨X.K, X.mg, none⟩ ar F n (x :: (vs ++ dvs)) H2 Q (WE W σ) := by
  obtain ⟨H0, G0, Hs, F', η, ok, pp⟩ := w
  refine tE.use ok ((Post.bind pp).imp fun d pd v H1 Hs1 st1 rd ok1 => ?_)
  cases d <;> first | exact pd.elim | skip
  rename_i i ds
  by_cases hi : i = c
  · subst hi
    have pd1 : Post (sta X h) W σ H ((isIns i (.ins i ds)).bind fun _ => (mas η).bind fun as => F ((VL.D.ins i ds :: as) ++ dfl)) _ := pd
    have e1 : isIns i (.ins i ds) = .ok () := if_pos rfl
    rw [e1] at pd1
    have pd2 : Post (sta X h) W σ H ((mas η).bind fun as => F ((VL.D.ins i ds :: as) ++ dfl)) _ := pd1
    have rd0 := rd
    unfold Rep at rd0
    obtain ⟨a, C', dx, fs, rfl, hm', hH, hf, hr⟩ := rd0
    rw [show (sta X h).mg = X.mg from rfl, hm] at hm'
    cases hm'
    refine ⟨a, dx, fs, rfl, ok1.sub _ _ hH, fget_miss (by rw [hf]; exact hcm), ?_⟩
    have pb := Post.bind pd2
    cases hη : mas η with
    | ok as =>
      rw [hη] at pb
      have hl := hml η as hη
      refine tA.use ok1 ?_
      rw [hη]
      refine fun vs H2 Hs2 st2 ras ok2 => ⟨(VL.D.ins i ds :: as) ++ dfl, Hs2, by rw [List.length_append, List.length_cons, hl]; exact hlen, ok2.sub, ?_, ?_⟩
      · exact (Reps.cons_iff.mpr ⟨_, _, rfl, (rd.same st2.shr).cool, ras.cool⟩).append (hrep _)
      · exact post_swap (S := sta X h) pb (st1.all.trans st2.all) (fun cls d H' q => q) fun d kk v H' Hs' Fr st o => kk v H' Hs' Fr ((st1.trans st2).trans st) (o.cool d _ v _)
    | exc er =>
      rw [hη] at pb
      refine tA.use ok1 ?_
      rw [hη]
      exact fun cls d H' c s' => pb cls d H' c (st1.all.trans s')
    | stuck => rw [hη] at pb; exact pb.elim
  · exfalso
    have pd1 : Post (sta X h) W σ H ((isIns c (.ins i ds)).bind fun _ => (mas η).bind fun as => F ((VL.D.ins i ds :: as) ++ dfl)) _ := pd
    have e1 : isIns c (.ins i ds) = .stuck := if_neg hi
    rw [e1] at pd1
    exact pd1.elim
theorem e_meth {pl : Sem Bool} (M : FnM X.prog X.w X.K X.mg X.base c m k ar F n dfl) (hr : Room j X.A) (hk : k ≤ j) (tk : Takes X W) (ho : PE X o (tE (sta X h) W Γ mo no)) (ha : PA X (e :: es) (tA (sta X h) W Γ mas)) (hml : ∀ η ds, mas η = .ok ds → ds.length = es.length + 1) (hlen : es.length + 1 + 1 + dfl.length = ar := by rfl) (hcm : m ∉ (clsTab c).2 := by decide)
    (hst : starEach (e :: es) X.env = (false, eval e X.env) :: starEach es X.env := by rfl) (hpl : (backTo pos (starEach es X.env)).any (·.1) = false := by rfl)
    (ht : eval (.Call (.Attribute o m apos) (e :: es) [] pos) X.env = (do
      let ov ← eval o X.env
      standAt apos.atName
      let (f, first) ← holding [ov] (getMethod ov m pl)
      callWith pos f first (backTo pos (starEach (e :: es) X.env)) (backToKw pos (keywordEach [] X.env))) := by rfl) :
    PE X (.Call (.Attribute o m apos) (e :: es) [] pos) (tE (sta X h) W Γ (dMeth c (fun as => F (as ++ dfl)) mo mas) n) := by
  obtain ⟨C, fA, fd, ps, ds, dvs, hm, hC, hM, G, hd, hrep, hb⟩ := M.ex
  refine ⟨fun pins s σ H Q I w => ?_⟩
  have w2 := meth_read (no := no) hm hrep hml hlen hcm w
  refine PySem.W.methodCall_KW (pl := pl) (thn (ho.run pins s σ H _ I w2) fun u s1 ⟨x, H1, I1, rx, a, dx, fs, ex, ea, l, q⟩ => ?_) ht
  subst ex
  obtain rfl : u = Value.ref a := rx
  refine getmeth_ok I1 ea hC hM l ?_
  refine PySem.W.callWith_K (first := [.ref a]) (h₀ := X.base) I.ok.mod.kin hM.kp (thn (ha.run pos pins s1 σ H1 _ I1 q) fun us s2 ⟨vs, H2, I2, r, q2⟩ => ⟨I2.kIn, ?_⟩) hst hpl
  exact run_S (us := .ref a :: us) (vs := .ref a :: vs) G (hr.mono hk) hb hd (passAt tk σ) I2 (.cons rfl r) q2
theorem e_meth0 {pl : Sem Bool} (M : FnM X.prog X.w X.K X.mg X.base c m k ar F n dfl) (hr : Room j X.A) (hk : k ≤ j) (tk : Takes X W) (ho : PE X o (tE (sta X h) W Γ mo no)) (hlen : 1 + dfl.length = ar := by rfl) (hcm : m ∉ (clsTab c).2 := by decide)
    (ht : eval (.Call (.Attribute o m apos) [] [] pos) X.env = (do
      let ov ← eval o X.env
      standAt apos.atName
      let (f, first) ← holding [ov] (getMethod ov m pl)
      callWith pos f first (backTo pos (starEach [] X.env)) (backToKw pos (keywordEach [] X.env))) := by rfl) :
    PE X (.Call (.Attribute o m apos) [] [] pos) (tE (sta X h) W Γ (dMeth c (fun as => F (as ++ dfl)) mo aNil) n) := by
  obtain ⟨C, fA, fd, ps, ds, dvs, hm, hC, hM, G, hd, hrep, hb⟩ := M.ex
  refine ⟨fun pins s σ H Q I w => ?_⟩
  have w2 := meth_read (no := no) (j := 0) hm hrep (fun η ds h => by cases h; rfl) (by omega) hcm w
  refine PySem.W.methodCall_KW (pl := pl) (thn (ho.run pins s σ H _ I w2) fun u s1 ⟨x, H1, I1, rx, a, dx, fs, ex, ea, l, q⟩ => ?_) ht
  subst ex
  obtain rfl : u = Value.ref a := rx
  refine getmeth_ok I1 ea hC hM l ?_
  obtain ⟨q1, q2, q3, F', η, ok, q5⟩ := q
  have q6 := q5 [] H1 q3 (Step.refl ok.sub) (Reps.nil_iff.mpr rfl)
  exact PySem.W.callWith_K0 (first := [.ref a]) I1.kIn hM.kp (run_S (us := [.ref a]) (vs := [.ref a]) G (hr.mono hk) hb hd (passAt tk σ) I1 (.cons rfl .nil) q6)
/-! ### C(..) -/
def spI (K : PySem.W.Frag) (mg : Str → Option Value) (c ar : Nat) (f : List D → Res D) : Sp := fun vs H Q E => ∃ (x C dx : Addr) (ds : List D) (Hs H1 : Hp) (vs' : List V), vs = .ref x :: vs' ∧ H = upd (upd H1 dx (.own x)) x (.ins C dx []) ∧ H1 x = none ∧ H1 dx = none ∧ dx ≠ x ∧
  mg (clsTab c).1 = some (.ref C) ∧ ds.length = ar ∧ Same Hs H1 ∧ Reps ⟨K, mg, none⟩ Hs ds vs' ∧
  Post ⟨K, mg, none⟩ (fun cls d _ H' => E cls d H') [] H1 (f ds) fun d => ∀ (H' Hs' : Hp), Step H1 Hs H' Hs' [] → Rep ⟨K, mg, none⟩ Hs' d (.ref x) → Q .non H'
structure FnI (P : Program) (w : World) (K : PySem.W.Frag) (mg : Str → Option Value) (base : Heap) (c k ar : Nat) (f : List D → Res D) (dfl : List D) : Prop where
  ex : ∃ (C fA : Addr) (fd : FuncData) (ps : List Str) (ds : List Value) (dvs : List V), mg (clsTab c).1 = some (.ref C) ∧ Mk K C fA ∧
    FnOk P w K mg base (L2.CX P w) k fA fd ps (spI K mg c ar f) ∧ Vals dvs ds ∧ (∀ H, Reps ⟨K, mg, none⟩ H dfl dvs) ∧ Binds K fd ps ds
theorem run_makeS {C fA : Addr} {fd : FuncData} {ps : List Str} {sp : Sp} {E : L2.St → XK} {dvs : List V} {ds : List Value} {pins : List (Addr × Obj)} {σ : L2.St} {H : Hp} {s : Shared} {Q : VK} {us : List Value} {vs : List V} (M : Mk X.K C fA) (G : FnOk X.prog X.w X.K X.mg X.base (L2.CX X.prog X.w) k fA fd ps sp) (hr : Room (k + 1) X.A) (hb : Binds X.K fd ps ds) (hd : Vals dvs ds)
    (hx : PassesAt (L2.CX X.prog X.w) X σ (E σ)) (I : Inv X pins σ H s) (r : Vals vs us)
    (h : ∀ x dx, H x = none → H dx = none → dx ≠ x → sp (.ref x :: (vs ++ dvs)) (upd (upd H dx (.own x)) x (.ins C dx [])) (fun v H2 => v = .non ∧ Q (.ref x) H2) (E σ)) :
    wpAny (model X.prog X.w) X.A (call (.ref C) us) (EP X pins σ Q) X.xe s := by
  have hq := h (s.heap.objs.size + 1) s.heap.objs.size (I.hok.fresh (Nat.le_succ _)) (I.hok.fresh (Nat.le_refl _)) (Nat.ne_of_lt (Nat.lt_succ_self _))
  have I2 := Inv.made (C := C) I
  have r2 : Vals (V.ref (s.heap.objs.size + 1) :: (vs ++ dvs)) (Value.ref (s.heap.objs.size + 1) :: (us ++ ds)) := .cons rfl (r.append hd)
  have hl : (Value.ref (s.heap.objs.size + 1) :: us ++ ds).length = ps.length := by
    have e := r2.length
    rw [G.len _ _ _ _ hq] at e
    exact e.symm
  refine wpAny_call (make_map (f := fA) I.kIn M.makes M.init (beq_iff_eq.mp M.fn) (codeAny_mono (G.run _ X.stack _ _ ⟨Value.ref (s.heap.objs.size + 1) :: us, []⟩ (Value.ref (s.heap.objs.size + 1) :: (us ++ ds)) _ _ (E σ) (hr.make C us [])
    (I2.env0.make C us []) (hb _ (Value.ref (s.heap.objs.size + 1) :: us) I2.kIn hl) r2 hq) fun r s' hq' => ?_))
  cases r with
  | error e => exact hx pins _ _ e s' I2 hq'
  | ok fl =>
    cases fl with
    | ret u =>
      obtain ⟨v, H', I3, rv, ev, q3⟩ := I2.after hq'
      subst ev
      exact ⟨rv, ⟨V.ref (s.heap.objs.size + 1), H', I3, rfl, q3⟩⟩
    | next => exact False.elim hq'
    | brk => exact False.elim hq'
    | cont => exact False.elim hq'
theorem e_make (M : FnI X.prog X.w X.K X.mg X.base c k ar F dfl) (hr : Room j X.A) (hk : k + 1 ≤ j) (tk : Takes X W) (ha : PA X (e :: es) (tA (sta X h) W Γ mas)) (hml : ∀ η ds, mas η = .ok ds → ds.length = es.length + 1) (hx : (clsTab c).1 = x := by rfl) (hlen : es.length + 1 + dfl.length = ar := by rfl) (hg : Gl X x := by rfl) (hdb : (x == ("__debug__" : Str)) = false := by decide)
    (he : starEach (e :: es) X.env = (false, eval e X.env) :: starEach es X.env := by rfl) (hpl : (backTo pos (starEach es X.env)).any (·.1) = false := by rfl) :
    PE X (.Call (.Name x p) (e :: es) [] pos) (tE (sta X h) W Γ (dCall (fun as => F (as ++ dfl)) mas) 0) := by
  obtain ⟨C, fA, fd, ps, ds, dvs, hm, hM, G, hd, hrep, hb⟩ := M.ex
  subst hx
  refine ⟨fun pins s σ H Q I w => ?_⟩
  obtain ⟨H0, G0, Hs, F', η, ok, pp⟩ := w
  refine wpAny_Call_Name_kw (ld_glob I hg hm ?_ hdb)
  have w : tA (sta X h) W Γ mas σ H fun vs H1 => ∀ x dx, H1 x = none → H1 dx = none → dx ≠ x → spI X.K X.mg c ar F (.ref x :: (vs ++ dvs)) (upd (upd H1 dx (.own x)) x (.ins C dx [])) (fun v H2 => v = .non ∧ Q (.ref x) H2) (WE W σ) := by
    cases hη : mas η with
    | ok as =>
      have hl := hml η as hη
      refine tA.use ok ?_
      have pb := Post.bind pp
      rw [hη] at pb ⊢
      refine fun vs H1 Hs1 st1 r1 ok1 x dx n1 n2 n3 => ⟨x, C, dx, as ++ dfl, Hs1, H1, vs ++ dvs, rfl, rfl, n1, n2, n3, hm, by rw [List.length_append, hl]; exact hlen, ok1.sub, (r1.cool).append (hrep _), ?_⟩
      exact post_swap (S := sta X h) pb st1.all (fun cls d H' q => q) fun d kk H' Hs' st o => ⟨rfl, kk (.ref x) H' Hs' [] (st1.trans st) ((o.cool).own)⟩
    | exc er =>
      refine tA.use ok ?_
      have pb := Post.bind pp
      rw [hη] at pb ⊢
      exact pb
    | stuck =>
      have pb := Post.bind pp
      rw [hη] at pb
      exact pb.elim
  refine PySem.W.callWith_K (h₀ := X.base) I.ok.mod.kin hM.kp (thn (ha.run pos pins s σ H _ I w) fun us s1 ⟨vs, H1, I1, r, q⟩ => ⟨I1.kIn, ?_⟩) he hpl
  exact run_makeS hM G (hr.mono hk) hb hd (passAt tk σ) I1 r q
end
/-! ### __init__ -/
section
variable {S : Sta} {H0 H0' G0 H H' Hs : Hp} {Γ : List Nat} {F : Nat → List Addr} {σ : L2.St} {η : Env}
theorem Step.low {Fr : List Addr} (a : Step H0 G0 H Hs Fr) (s : Same H0' H0) : Step H0' G0 H Hs Fr := ⟨s.trans a.all, a.shr, a.sub, fun x h1 ⟨o, h2⟩ => a.new x h1 ⟨o, s x o h2⟩, fun x hx => ⟨s.free (a.fr x hx).1, (a.fr x hx).2⟩, a.nd⟩
theorem EOk.low (ok : EOk S H0 G0 H Hs Γ F σ η) (s : Same H0' H0) : EOk S H0' G0 H Hs Γ F σ η := ⟨ok.st.low s, ok.len, ok.slot, fun i a ha => ⟨(ok.hid i a ha).1, s.free (ok.hid i a ha).2.1, (ok.hid i a ha).2.2⟩, ok.disj, ok.nd, ok.hot⟩
theorem same_upd {HB : Hp} {x : Addr} {o : HO} (n : HB x = none) : Same HB (upd HB x o) := fun b u e => by rw [upd_ne (ne_of_none e n)]; exact e
/-- the object x of the ground holds another thing -/
theorem EOk.repl {HB : Hp} {x : Addr} {o o' : HO} (ok : EOk S (upd HB x o) G0 H Hs Γ F σ η) (n : HB x = none) (g : G0 x = none) : EOk S (upd HB x o') G0 (upd H x o') Hs Γ F σ η := by
  have hx : Hs x = none := ok.st.new x g ⟨o, upd_same⟩
  have hF : ∀ i, x ∉ F i := fun i hi => by
    have z := (ok.hid i x hi).2.1
    rw [upd_same] at z; cases z
  refine ⟨⟨fun b u e => ?_, ok.st.shr, fun b u e => ?_, fun a h1 ⟨u, h2⟩ => ?_, fun _ z => absurd z List.not_mem_nil, List.nodup_nil⟩, ok.len, fun i d hd => ?_, fun i a ha => ?_, ok.disj, ok.nd, ok.hot⟩
  · by_cases hb : b = x
    · subst hb; rw [upd_same] at e ⊢; exact e
    · rw [upd_ne hb] at e ⊢
      exact ok.st.all b u (by rw [upd_ne hb]; exact e)
  · have hb : b ≠ x := fun q => by rw [q, hx] at e; cases e
    rw [upd_ne hb]; exact ok.st.sub b u e
  · by_cases ha : a = x
    · rw [ha]; exact hx
    · rw [upd_ne ha] at h2
      exact ok.st.new a h1 ⟨u, by rw [upd_ne ha]; exact h2⟩
  · obtain ⟨v, h1, h2⟩ := ok.slot i d hd
    refine ⟨v, h1, h2.move (Same.refl _) d _ v _ fun a ha => upd_ne fun q => hF i (by rw [← q]; exact ha)⟩
  · obtain ⟨h1, h2, u, h3⟩ := ok.hid i a ha
    have hb : a ≠ x := fun q => hF i (by rw [← q]; exact ha)
    rw [upd_ne hb] at h2
    exact ⟨h1, by rw [upd_ne hb]; exact h2, u, by rw [upd_ne hb]; exact h3⟩
end
def sInit (c : Nat) (mas : M (List D)) : Env → Fl := fun η => onRes (mas η) η fun ds => if ds.length = (clsTab c).2.length then .nx (η.set 0 (some (.ins c ds))) else .stuck
section
variable {X : Cx} {c : Ct} {Γ Γ1 Γ2 : List Nat} {e : Expr} {st : Stmt} {sts rest : List Stmt} {ma : M D} {mas : M (List D)} {m m1 m2 : Env → Fl} {na k : Nat} {pos : Pos} {f : Str} {x C dx : Addr} {HB G0 : Hp}
/-- ahead of the fields: the new instance x is bare -/
def tSI (x C dx : Addr) (HB G0 : Hp) (c : Ct) (Γ : List Nat) (m : Env → Fl) (Γ' : List Nat) : TS := fun D σ H => ∃ (Hs : Hp) (F : Nat → List Addr) (η : Env), EOk c.S (upd HB x (.ins C dx [])) G0 H Hs Γ F σ η ∧ PostS c HB G0 Γ' (m η) D
structure Bare (X : Cx) (c : Ct) (k : Nat) (x C : Addr) (HB G0 : Hp) : Prop where
  hot : c.S = sta X (some (0, x, .keyE))
  n : HB x = none
  g : G0 x = none
  mg : X.mg (clsTab k).1 = some (.ref C)
  kk : k < nCls
theorem ss_consI (B : Bare X c k x C HB G0) (h1 : PS X st (tS c Γ m1 Γ1)) (h2 : PSs X rest (tSI x C dx HB G0 c Γ1 m2 Γ2)) : PSs X (st :: rest) (tSI x C dx HB G0 c Γ (sSeq m1 m2) Γ2) := impSs (pss_cons h1 h2) fun D σ H w => by
  obtain ⟨Hs, F, η, ok, p⟩ := w
  refine ⟨_, _, Hs, F, η, ok, ?_⟩
  have sm : Same HB (upd HB x (.ins C dx [])) := same_upd B.n
  unfold sSeq at p
  cases hm : m1 η with
  | nx η' =>
    rw [hm] at p
    exact fun σ' H' Hs' F' ok' => ⟨Hs', F', η', ok', p⟩
  | rt d =>
    rw [hm] at p
    exact fun v H' Hs' Fr st' o => p v H' Hs' Fr (st'.low sm) o
  | bk η' =>
    rw [hm] at p
    exact fun σ' H' Hs' F' ok' => p σ' H' Hs' F' (ok'.low sm)
  | ct η' =>
    rw [hm] at p
    exact fun σ' H' Hs' F' ok' => p σ' H' Hs' F' (ok'.low sm)
  | ex er η' =>
    rw [hm] at p
    exact fun cls dd σ' H' Hs' F' hc ok' => p cls dd σ' H' Hs' F' hc (ok'.low sm)
  | stuck => rw [hm] at p; exact p.elim
/-- among the fields: ds are there, mas are to come -/
def contF (k : Nat) (ds : List D) (mas : M (List D)) (m2 : Env → Fl) (η : Env) : Fl := match onRes (mas η) η (fun es => if (ds ++ es).length = (clsTab k).2.length then .nx (η.set 0 (some (.ins k (ds ++ es)))) else .stuck) with
  | .nx η' => m2 η'
  | r => r
def tSF (k : Nat) (x C dx : Addr) (HB G0 : Hp) (c : Ct) (Γ : List Nat) (j : Nat) (mas : M (List VL.D)) (m2 : Env → Fl) (Γ' : List Nat) : TS := fun D σ H => ∃ (Hs : Hp) (F : Nat → List Addr) (η : Env) (ds : List VL.D) (fs : List (Str × V)), EOk c.S (upd HB x (.ins C dx fs)) G0 H Hs Γ F σ η ∧
  ds.length = j ∧ fs.map (·.1) = (clsTab k).2.take j ∧ Reps c.S Hs ds (fs.map (·.2)) ∧ PostS c HB G0 Γ' (contF k ds mas m2 η) D
theorem ss_begin (h : PSs X sts (tSF k x C dx HB G0 c Γ 0 mas m2 Γ2)) : PSs X sts (tSI x C dx HB G0 c Γ (sSeq (sInit k mas) m2) Γ2) := impSs h fun D σ H w => by
  obtain ⟨Hs, F, η, ok, p⟩ := w
  refine ⟨Hs, F, η, [], [], ok, rfl, rfl, Reps.nil_iff.mpr rfl, ?_⟩
  have e : sSeq (sInit k mas) m2 η = contF k [] mas m2 η := rfl
  rw [← e]; exact p
theorem take_succ_get {α : Type} : ∀ (l : List α) (j : Nat) (a : α), l[j]? = some a → l.take (j + 1) = l.take j ++ [a]
  | [], j, a, h => by simp at h
  | b :: l, 0, a, h => by
    have : b = a := by simpa using h
    simp [this]
  | b :: l, j + 1, a, h => by
    rw [List.take_succ_cons, take_succ_get l j a (by simpa using h), List.take_succ_cons, List.cons_append]
theorem putF_new {g : Str} {v : V} : ∀ {fs : List (Str × V)}, g ∉ fs.map (·.1) → putF g v fs = fs ++ [(g, v)]
  | [], _ => rfl
  | (k, w) :: fs, h => by
    rw [List.map_cons, List.mem_cons, not_or] at h
    show (if k = g then (k, v) :: fs else (k, w) :: putF g v fs) = _
    rw [if_neg (Ne.symm h.1), putF_new h.2]; rfl
theorem ss_fld {p1 p2 : Pos} {s0 : Str} {j : Nat} (B : Bare X c k x C HB G0) (T : ClT X.K X.mg) (he : PE X e (tE (sta X (some (0, x, .keyE))) c.W Γ ma na)) (next : PSs X rest (tSF k x C dx HB G0 c Γ (j + 1) mas m2 Γ2))
    (hf : (clsTab k).2[j]? = some f := by rfl) (hnew : f ∉ (clsTab k).2.take j := by decide) (hj : j < 100 := by decide) (hN : X.N[0]? = some s0 := by rfl) (hv : Vis X.env.scope s0 := by first | exact Or.inl rfl | exact Or.inr (Or.inl rfl) | exact Or.inr (Or.inr rfl)) (hd : (s0 == ("__debug__" : Str)) = false := by decide)
    (hcd : (s0 == ("__classdict__" : Str)) = false := by decide) (hs : swapsWith e (some (.Attribute (.Name s0 p1) f p2)) pos.line X.env = pure false := by rfl) :
    PSs X (.Assign [.Attribute (.Name s0 p1) f p2] e pos :: rest) (tSF k x C dx HB G0 c Γ j (aCons ma mas) m2 Γ2) := impSs (pss_cons (ps_fld (pe_var hN hv hd hcd) he hs) next) fun D σ H w => by
  obtain ⟨Hs, F, η, ds, fs, ok, hl, hfs, hr, p⟩ := w
  have okl := ok.low (same_upd B.n)
  obtain ⟨cl, na'⟩ := T.cl k C B.kk B.mg
  have hS := B.hot
  have p1 : PostS c HB G0 Γ2 (onRes (ma η) η fun d => contF k (ds ++ [d]) mas m2 η) D := by
    unfold contF aCons at p
    cases hm : ma η with
    | ok d =>
      rw [hm] at p
      have p2 : PostS c HB G0 Γ2 (match onRes ((mas η).bind fun xs => .ok (d :: xs)) η (fun es => if (ds ++ es).length = (clsTab k).2.length then Fl.nx (η.set 0 (some (.ins k (ds ++ es)))) else .stuck) with | .nx η' => m2 η' | r => r) D := p
      show PostS c HB G0 Γ2 (contF k (ds ++ [d]) mas m2 η) D
      unfold contF
      cases hk : mas η with
      | ok es =>
        rw [hk] at p2
        have e1 : ds ++ [d] ++ es = ds ++ d :: es := by simp
        show PostS c HB G0 Γ2 (match (if (ds ++ [d] ++ es).length = (clsTab k).2.length then Fl.nx (η.set 0 (some (.ins k (ds ++ [d] ++ es)))) else .stuck) with | .nx η' => m2 η' | r => r) D
        rw [e1]; exact p2
      | exc er => rw [hk] at p2; exact p2
      | stuck => rw [hk] at p2; exact p2
    | exc er => rw [hm] at p; exact p
    | stuck => rw [hm] at p; exact p
  have pp := onRes_post okl p1
  rw [hS] at pp ok hr
  refine tE.use ok (pp.imp fun d kk v H1 Hs1 st1 rd ok1 => ?_)
  have hx : σ[0]? = some (some (.ref x)) := ok.hot 0 x .keyE rfl
  have hH1 : H1 x = some (.ins C dx fs) := ok1.st.all x _ upd_same
  refine ⟨.ref x, hx, x, C, dx, fs, rfl, hH1, cl, na' f (List.mem_of_getElem? hf), ?_, ?_⟩
  · have z := congrArg List.length hfs
    rw [List.length_map, List.length_take] at z
    omega
  · have hnf : f ∉ fs.map (·.1) := by rw [hfs]; exact hnew
    rw [putF_new hnf]
    refine ⟨Hs1, F, η, ds ++ [d], fs ++ [(f, v)], ?_, by rw [List.length_append, hl]; rfl, ?_, ?_, kk⟩
    · rw [hS]
      exact ok1.repl B.n B.g
    · rw [List.map_append, hfs, take_succ_get _ _ _ hf]; rfl
    · rw [hS, List.map_append]
      exact (hr.same st1.shr).append (Reps.one rd)
theorem ss_fin {j : Nat} (B : Bare X c k x C HB G0) (hG : Γ.getD 0 0 = 0 := by rfl) (hj : j = (clsTab k).2.length := by rfl) (h2 : PSs X rest (tS c Γ m2 Γ2)) : PSs X rest (tSF k x C dx HB G0 c Γ j aNil m2 Γ2) := impSs h2 fun D σ H w => by
  obtain ⟨Hs, F, η, ds, fs, ok, hl, hfs, hr, p⟩ := w
  have hx : Hs x = none := ok.st.new x B.g ⟨_, upd_same⟩
  have hH : H x = some (.ins C dx fs) := ok.st.all x _ upd_same
  have hF : ∀ i, x ∉ F i := fun i hi => by
    have z := (ok.hid i x hi).2.1
    rw [upd_same] at z; cases z
  have sm : Same Hs (upd Hs x (.ins C dx fs)) := same_upd hx
  have hS := B.hot
  have h0 : σ[0]? = some (some (.ref x)) := by
    have := ok.hot 0 x .keyE (by rw [hS])
    exact this
  have hlen : 0 < η.length := by
    rw [← ok.len]
    exact (List.getElem?_eq_some_iff.mp h0).1
  have e : contF k ds aNil m2 η = m2 (η.set 0 (some (.ins k ds))) := by
    unfold contF aNil
    show (match (if (ds ++ []).length = (clsTab k).2.length then Fl.nx (η.set 0 (some (.ins k (ds ++ [])))) else .stuck) with | .nx η' => m2 η' | r => r) = _
    rw [List.append_nil, if_pos (by rw [hl]; exact hj)]
  rw [e] at p
  refine ⟨HB, G0, upd Hs x (.ins C dx fs), fun i => if i = 0 then [] else F i, η.set 0 (some (.ins k ds)), ?_, p⟩
  have okl := ok.low (same_upd B.n)
  refine ⟨⟨okl.st.all, ok.st.shr.trans sm, fun b u q => ?_, fun a h1 ⟨u, h2⟩ => ?_, fun _ z => absurd z List.not_mem_nil, List.nodup_nil⟩, by rw [List.length_set]; exact ok.len, fun i d hd => ?_, fun i a ha => ?_, fun i j a h1 h2 => ?_, fun i => ?_, ok.hot⟩
  · by_cases hb : b = x
    · subst hb; rw [upd_same] at q; rw [hH]; exact q
    · rw [upd_ne hb] at q; exact ok.st.sub b u q
  · have ha : a ≠ x := fun q => by rw [q, B.n] at h2; cases h2
    rw [upd_ne ha]
    exact okl.st.new a h1 ⟨u, h2⟩
  · rw [List.getElem?_set] at hd
    by_cases hi : 0 = i
    · subst hi
      rw [if_pos rfl, if_pos hlen] at hd
      have ed : VL.D.ins k ds = d := by simpa using hd
      subst ed
      refine ⟨.ref x, h0, ?_⟩
      rw [hG, if_pos rfl]
      refine Own.zero.mpr ⟨rfl, ?_⟩
      unfold Rep
      refine ⟨x, C, dx, fs, rfl, by rw [hS]; exact B.mg, upd_same, ?_, hr.same sm⟩
      rw [hfs, hj, List.take_length]
    · rw [if_neg hi] at hd
      obtain ⟨v, q1, q2⟩ := ok.slot i d hd
      refine ⟨v, q1, ?_⟩
      rw [if_neg (Ne.symm hi)]
      exact q2.move sm d _ v _ fun _ _ => rfl
  · by_cases hi : i = 0
    · simp [hi] at ha
    · rw [if_neg hi] at ha
      obtain ⟨q1, q2, q3⟩ := okl.hid i a ha
      refine ⟨?_, q2, q3⟩
      rw [upd_ne fun q => hF i (by rw [← q]; exact ha)]
      exact q1
  · by_cases hi : i = 0
    · simp [hi] at h1
    · by_cases hj' : j = 0
      · simp [hj'] at h2
      · rw [if_neg hi] at h1
        rw [if_neg hj'] at h2
        exact ok.disj i j a h1 h2
  · by_cases hi : i = 0
    · simp [hi]
    · simp only [hi, if_false]; exact ok.nd i
end
def mkInit (n m : Nat) (body : Env → Fl) : List D → Res D := fun ds => if ds.length = n then (match body (none :: (ds.map some ++ List.replicate (m - n - 1) none)) with
  | .nx η => (match η[0]? with | some (some d) => .ok d | _ => .stuck)
  | .ex e _ => .exc e
  | _ => .stuck) else .stuck
abbrev initCt (K : PySem.W.Frag) (mg : Str → Option Value) (E : XK) (x : Addr) : Ct := ⟨⟨K, mg, some (0, x, .keyE)⟩, fun cls d _ H => E cls d H, 0, [], []⟩
theorem init_ok {P : Program} {w : World} {K : PySem.W.Frag} {mg : Str → Option Value} {base : Heap} {x qual : Str} {params : Arguments} {body : List Stmt} {scope : Scope} {dvs : List V} {kws : List (Str × V)} {fA : Addr} {fd : FuncData} {N ps : List Str} {k ar c : Nat} {m : Env → Fl} {Γ Γ' : List Nat}
    (F : FunD K x qual params body scope dvs kws fA fd) (Sc : FnScope N ps scope) (har : ps.length = ar + 1) (hc : c < nCls) (hΓ : Γ.all (· == 0) = true) (hΓ' : Γ'.getD 0 0 = 0)
    (hbody : ∀ (cdv : Value) (A : Around) (outer : List PySem.Env) (s : Shared) (H : Hp) (E : XK) (x C dx : Addr) (HB G0 : Hp), Room k (A.deeper (PyProof.Rows.envOfC qual scope s.heap.objs.size fA cdv)) →
      Bare (cxOf (L2.CX P w) P w K mg base N qual scope fA cdv A outer s H E) (initCt K mg E x) c x C HB G0 → PSs (cxOf (L2.CX P w) P w K mg base N qual scope fA cdv A outer s H E) body (tSI x C dx HB G0 (initCt K mg E x) Γ m Γ')) :
    FnOk P w K mg base (L2.CX P w) (k + 1) fA fd ps (spI K mg c ar (mkInit ar N.length m)) := by
  refine F.ok Sc (fun vs H Q E h => ?_) (fun cdv A outer s H vs Q E hr h => ?_)
  · obtain ⟨x, C, dx, ds, Hs, H1, vs', rfl, _, _, _, _, _, h1, _, h3, _⟩ := h
    rw [List.length_cons, h3.length, h1, har]
  · obtain ⟨x, C, dx, ds, Hs, H1, vs', rfl, rfl, n1, n2, n3, hm, h1, h2, h3, post⟩ := h
    have hB : Bare (cxOf (L2.CX P w) P w K mg base N qual scope fA cdv A outer s (upd (upd H1 dx (.own x)) x (.ins C dx [])) E) (initCt K mg E x) c x C (upd H1 dx (.own x)) Hs := ⟨rfl, by rw [upd_ne (Ne.symm n3)]; exact n1, h2.free n1, hm, hc⟩
    refine ⟨tSI x C dx (upd H1 dx (.own x)) Hs (initCt K mg E x) Γ m Γ', hbody cdv A outer s _ E x C dx _ Hs hr hB, ?_⟩
    have hvl := h3.length
    unfold mkInit at post
    rw [if_pos h1] at post
    have sm1 : Same H1 (upd H1 dx (.own x)) := same_upd n2
    have sm2 : Same (upd H1 dx (.own x)) (upd (upd H1 dx (.own x)) x (.ins C dx [])) := same_upd hB.n
    have eS : ∀ (i : Nat) (d : D), (none :: (ds.map some ++ List.replicate (N.length - ar - 1) none) : Env)[i]? = some (some d) → ∃ j, i = j + 1 ∧ ds[j]? = some d := fun i d e => by
      cases i with
      | zero => simp at e
      | succ j =>
        refine ⟨j, rfl, ?_⟩
        rw [List.getElem?_cons_succ, List.getElem?_append] at e
        split at e
        · simpa using e
        · rw [List.getElem?_replicate] at e
          split at e <;> cases e
    refine ⟨Hs, fun _ => [], none :: (ds.map some ++ List.replicate (N.length - ar - 1) none), ⟨⟨fun _ _ e => e, Same.refl _, (h2.trans sm1).trans sm2, fun a q _ => q, fun _ z => absurd z List.not_mem_nil, List.nodup_nil⟩, ?_, fun i d e => ?_, fun _ _ z => absurd z List.not_mem_nil, fun _ _ _ z => absurd z List.not_mem_nil, fun _ => List.nodup_nil, fun i a e q => ?_⟩, ?_⟩
    · unfold L2.start
      simp [hvl, h1]
      omega
    · obtain ⟨j, rfl, e'⟩ := eS i d e
      obtain ⟨v, e1, e2⟩ := h3.get e'
      refine ⟨v, ?_, ?_⟩
      · unfold L2.start
        have hlt : j < vs'.length := (List.getElem?_eq_some_iff.mp e1).1
        rw [List.getElem?_append_left (by simpa using hlt)]
        simp [e1]
      · rw [allz hΓ (j + 1)]
        exact (e2.cool).own
    · have q' : some (0, x, Er.keyE) = some (i, a, e) := q
      cases q'
      unfold L2.start
      simp
    · cases hb : m (none :: (ds.map some ++ List.replicate (N.length - ar - 1) none)) with
      | nx η' =>
        rw [hb] at post
        intro σ' H' Hs' F' ok'
        have post' : Post ⟨K, mg, none⟩ (fun cls d _ H' => E cls d H') [] H1 (match η'[0]? with | some (some d) => Res.ok d | _ => .stuck) fun d => ∀ (H' Hs' : Hp), Step H1 Hs H' Hs' [] → Rep ⟨K, mg, none⟩ Hs' d (.ref x) → Q .non H' := post
        cases h0 : η'[0]? with
        | none => rw [h0] at post'; exact post'.elim
        | some o =>
          rw [h0] at post'
          cases o with
          | none => exact post'.elim
          | some d =>
            obtain ⟨v, q1, q2⟩ := ok'.slot 0 d h0
            rw [hΓ'] at q2
            have q3 : σ'[0]? = some (some (.ref x)) := ok'.hot 0 x .keyE rfl
            rw [q3] at q1
            have q4 : V.ref x = v := by simpa using q1
            subst q4
            exact post' H' Hs' (ok'.st.low sm1) ((Own.zero.mp q2).2.cool)
      | rt d => rw [hb] at post; exact post.elim
      | ex er η' =>
        rw [hb] at post
        have post' : ∀ (cls : Value) (d : Option Addr) (H' : Hp), clsIs ⟨K, mg, none⟩ er cls d → Same H1 H' → E cls d H' := post
        exact fun cls dd σ' H' Hs' F' hcl ok' => post' cls dd H' hcl (sm1.trans ok'.st.all)
      | bk η' => rw [hb] at post; exact post.elim
      | ct η' => rw [hb] at post; exact post.elim
      | stuck => rw [hb] at post; exact post.elim
/-! ### as the calls take them -/
section
variable {P : Program} {w : World} {K : PySem.W.Frag} {mg : Str → Option Value} {base : Heap} {m : Str} {c k ar n : Nat} {f : List D → Res D} {C fA : Addr} {fd : FuncData} {ps : List Str} {dfl : List D} {dvs : List V}
theorem FnM_of (g : mg (clsTab c).1 = some (.ref C)) (T : ClT K mg) (hc : c < nCls) (M : Meth K C m fA) (o : FnOk P w K mg base (L2.CX P w) k fA fd ps (spF ⟨K, mg, none⟩ ar f n)) (b : Binds K fd ps []) : FnM P w K mg base c m k ar f n [] := ⟨⟨C, fA, fd, ps, [], [], g, (T.cl c C hc g).1, M, o, .nil, fun _ => Reps.dflt, b⟩⟩
theorem FnM_d (g : mg (clsTab c).1 = some (.ref C)) (T : ClT K mg) (hc : c < nCls) (M : Meth K C m fA) (o : FnOk P w K mg base (L2.CX P w) k fA fd ps (spF ⟨K, mg, none⟩ ar f n)) (hr : ∀ H, Reps ⟨K, mg, none⟩ H dfl dvs) (b : ∃ ds, Vals dvs ds ∧ Binds K fd ps ds) : FnM P w K mg base c m k ar f n dfl := by
  obtain ⟨ds, h1, h2⟩ := b
  exact ⟨⟨C, fA, fd, ps, ds, dvs, g, (T.cl c C hc g).1, M, o, h1, hr, h2⟩⟩
theorem FnI_of (g : mg (clsTab c).1 = some (.ref C)) (M : Mk K C fA) (o : FnOk P w K mg base (L2.CX P w) k fA fd ps (spI K mg c ar f)) (b : Binds K fd ps []) : FnI P w K mg base c k ar f [] := ⟨⟨C, fA, fd, ps, [], [], g, M, o, .nil, fun _ => Reps.dflt, b⟩⟩
theorem FnI_d (g : mg (clsTab c).1 = some (.ref C)) (M : Mk K C fA) (o : FnOk P w K mg base (L2.CX P w) k fA fd ps (spI K mg c ar f)) (hr : ∀ H, Reps ⟨K, mg, none⟩ H dfl dvs) (b : ∃ ds, Vals dvs ds ∧ Binds K fd ps ds) : FnI P w K mg base c k ar f dfl := by
  obtain ⟨ds, h1, h2⟩ := b
  exact ⟨⟨C, fA, fd, ps, ds, dvs, g, M, o, h1, hr, h2⟩⟩
end
/-- a number of the module -/
theorem e_gint {X : Cx} {W : WX} {Γ : List Nat} {h : Option (Nat × Addr × Er)} {n : Nat} {pos : Pos} {x : Str} (i : Int) (hm : ∃ t, X.mg x = some (.int i t)) (hg : Gl X x := by rfl) (hdb : (x == ("__debug__" : Str)) = false := by decide) : PE X (.Name x pos) (tE (sta X h) W Γ (dLit (.int i)) n) := by
  obtain ⟨t, hm⟩ := hm
  exact e_lit (v := .int i) (pe_glob hg hm ⟨_, rfl⟩ hdb) rfl fun _ _ => by unfold Rep; rfl
end VL
/-! VLAug: x[i] op= e. -/
namespace VL
open PySem PySem.Spec PyProof PyProof.Rows L2
theorem pget_list {X : Cx} : PGet X (rIxL X.K) := by
  intro pins s σ H x y v u Q I rx ry h
  obtain ⟨p, xs, i, z, rfl, rfl, hq, he, q⟩ := h
  cases rx
  obtain ⟨t, rfl⟩ := ry
  obtain ⟨its, r, pl, hz⟩ := I.list hq
  obtain ⟨j, h1, h2, h3, h4, h5⟩ := atI_get he
  obtain ⟨w, ew, rw'⟩ := r.get h2
  have hl := r.length
  have hn := line63
  have fin : EP X pins σ Q w s := ⟨z, H, I, rw', q⟩
  by_cases h0 : 0 ≤ i
  · have hj : i.toNat = j := by
      rw [seqIndex_of h0 h5] at h1
      exact Option.some.inj h1
    exact wpAny_getItem_list pl.isList h0 (by omega) (by rw [hj]; simpa using ew) fin
  · have hj : (i + (its.toArray.size : Int)).toNat = j := by
      rw [seqIndex_neg (by omega) h4] at h1
      rw [List.size_toArray, ← hl]
      exact Option.some.inj h1
    exact wpAny_getItem_list_neg pl.isList (by omega) (by rw [List.size_toArray] <;> omega) (by omega) (by rw [hj]; simpa using ew) fin
/-- x[i] op= e, x the list in the slot k -/
def sAugS (k : Nat) (i : M D) (f : D → D → Res D) (a : M D) : Env → Fl := fun η => onRes (lstAt η k) η fun xs => onRes (i η) η fun y => match y with
  | .int z => (match atD xs z with
    | some old => onRes ((a η).bind fun v => f old v) η fun d => match setD xs z d with | some ys => .nx (η.set k (some (.lst ys))) | none => .stuck
    | none => .stuck)
  | _ => .stuck
section
variable {X : Cx} {c : Ct} {Γ : List Nat} {h : Option (Nat × Addr × Er)} {b e : Expr} {ma mb : M D} {na nb : Nat} {pos : Pos} {x : Str}
theorem s_augS {op : Operator} {r : R2} {f : D → D → Res D} {p2 pt : Pos} (k : Nat) (hS : c.S = sta X h) (ho : OpR X (inplaceOp op) r) (hf : OpD (sta X h) r f 0) (he : PE X e (tE (sta X h) c.W Γ ma na)) (hb : PE X b (tE (sta X h) c.W Γ mb nb)) (hG : Γ.getD k 0 = 1 := by rfl) (hN : X.N[k]? = some x := by rfl) (hv : Vis X.env.scope x := by first | exact Or.inl rfl | exact Or.inr (Or.inl rfl) | exact Or.inr (Or.inr rfl)) (hd : (x == ("__debug__" : Str)) = false := by decide) (hcd : (x == ("__classdict__" : Str)) = false := by decide)
    (hau : ∀ ov iv new, augStore b ov iv new = (do holding [new, ov, iv] (setItem ov iv new); release [new, ov, iv] []; pure .next) := by intros; rfl) :
    PS X (.AugAssign (.Subscript (.Name x p2) b pt) op e pos) (tS c Γ (sAugS k mb f ma) Γ) := impS (ps_augS (pe_var hN hv hd hcd) hb pget_list he (pip_of ho) set_list hau) fun D σ H w => by
  obtain ⟨H0, G0, Hs, F, η, ok, p⟩ := w
  obtain ⟨xs, e1, px⟩ := lstAt_ok (onRes_post ok p)
  have pp := onRes_post ok px
  rw [hS] at pp ok
  obtain ⟨l, vs, G, q1, q2, q3, q4⟩ := own_at ok hG e1
  obtain ⟨rfl, r4⟩ := q4.reps
  refine ⟨.ref l, q1, tE.use ok (pp.imp fun y ky u H1 Hs1 st1 ru ok1 => ?_)⟩
  cases y <;> first | exact ky.elim | skip
  rename_i z
  have okc : EOk c.S H0 G0 H1 Hs1 Γ F σ η := by rw [hS]; exact ok1
  have ky' : PostS c H0 G0 Γ (match atD xs z with | some old => onRes ((ma η).bind fun v => f old v) η (fun d => match setD xs z d with | some ys => Fl.nx (η.set k (some (.lst ys))) | none => .stuck) | none => .stuck) D := ky
  cases hz : atD xs z with
  | none => rw [hz] at ky'; exact ky'.elim
  | some old =>
    rw [hz] at ky'
    have pq := onRes_post okc ky'
    rw [hS] at pq
    unfold Rep at ru
    have r41 := r4.same st1.shr
    obtain ⟨vo, e2, e3⟩ := atD_get r41 hz
    refine ⟨l, vs, z, vo, rfl, ru, SqL.of (st1.all _ _ q3), e2, tE.use ok1 ((Post.bind pq).imp fun v pv w H2 Hs2 st2 rv ok2 => ?_)⟩
    refine hf c.W σ H2 Hs2 old v vo w _ ok2.sub (e3.same st2.shr) rv ((pv.up st2.all).imp fun d kd wz H3 Hs3 Fr st3 o3 => ?_)
    obtain ⟨e4, r3⟩ := Own.zero.mp o3
    subst e4
    have ok3 := ok2.step st3
    have kd' : PostS c H0 G0 Γ (match setD xs z d with | some ys => Fl.nx (η.set k (some (.lst ys))) | none => .stuck) D := kd
    cases hy : setD xs z d with
    | none => rw [hy] at kd'; exact kd'.elim
    | some ys =>
      rw [hy] at kd'
      obtain ⟨j, hj, rfl⟩ := setD_ok hy
      have st := (st1.trans st2).trans st3
      have r4' := r4.same st.shr
      have q3' : H3 l = some (.lst vs) := st.all _ _ q3
      refine ⟨l, vs, z, j, rfl, ru, q3', by rw [r4.length]; exact hj, ?_⟩
      have zz := ok3.list1 hG q1 q2 e1 (r4'.set j r3)
      exact kd' σ _ Hs3 F (by rw [hS]; exact zz)
end
end VL
/-! VLPick: [f, g][i](..), a def picked from a list of two. -/
namespace VL
open PySem PySem.Spec PyProof PyProof.Rows L2
section
variable {X : Cx} {W : WX} {Γ : List Nat} {e ie : Expr} {es : List Expr} {mas : M (List D)} {mi : M D} {n ni k k' ar : Nat} {pos p p1 p2 p3 p4 : Pos} {x y : Str} {f g : List D → Res D}
/-- the call of a def whose value is at hand -/
theorem call_at {h : Option (Nat × Addr × Er)} {u : Value} {pins : List (Addr × Obj)} {s : Shared} {σ : L2.St} {H : Hp} {Q : VK} (F : FnS X.prog X.w X.K X.mg X.base x k ar f n []) (hu : X.mg x = some u) (hr : Room k X.A) (tk : Takes X W) (ha : PA X (e :: es) (tA (sta X h) W Γ mas)) (hlen : es.length + 1 = ar) (hml : ∀ η ds, mas η = .ok ds → ds.length = es.length + 1)
    (he : starEach (e :: es) X.env = (false, eval e X.env) :: starEach es X.env) (hpl : (backTo pos (starEach es X.env)).any (·.1) = false) (I : Inv X pins σ H s) (w : tE (sta X h) W Γ (dCall f mas) n σ H Q) :
    wpAny (model X.prog X.w) X.A (callWith pos u [] (backTo pos (starEach (e :: es) X.env)) []) (EP X pins σ Q) X.xe s := by
  obtain ⟨fA, fd, ps, ds, dvs, hm, hk, G, hd, hrep, hb⟩ := F.ex
  obtain rfl : u = .ref fA := by rw [hm] at hu; exact (Option.some.inj hu).symm
  obtain ⟨H0, G0, Hs, F, η, ok, pp⟩ := w
  have w : tA (sta X h) W Γ mas σ H fun vs H1 => spF ⟨X.K, X.mg, none⟩ ar f n (vs ++ dvs) H1 Q (WE W σ) := by
    cases hη : mas η with
    | ok as =>
      have hl := hml η as hη
      refine tA.use ok ?_
      have pb := Post.bind pp
      rw [hη] at pb ⊢
      have hz : dvs = [] := Reps.nil_iff.mp (hrep H)
      refine fun vs H1 Hs1 st1 r1 ok1 => ⟨as, Hs1, by rw [hl]; exact hlen, ok1.sub, by rw [hz, List.append_nil]; exact r1.cool, ?_⟩
      exact post_swap (S := sta X h) pb st1.all (fun cls d H' q => q) fun d kk v H' Hs' Fr st o => kk v H' Hs' Fr (st1.trans st) (o.cool d _ v _)
    | exc er =>
      refine tA.use ok ?_
      have pb := Post.bind pp
      rw [hη] at pb ⊢
      exact pb
    | stuck =>
      have pb := Post.bind pp
      rw [hη] at pb
      exact pb.elim
  refine PySem.W.callWith_K (h₀ := X.base) I.ok.mod.kin hk (thn (ha.run pos pins s σ H _ I w) fun us s1 ⟨vs, H1, I1, r, q⟩ => ⟨I1.kIn, ?_⟩) he hpl
  exact run_S G hr hb hd (passAt tk σ) I1 r q
def dPick2 (f g : List D → Res D) (mi : M D) (ma : M (List D)) : M D := fun η => (mi η).bind fun i => match i with
  | .int j => if j = 0 then dCall f ma η else if j = 1 then dCall g ma η else .stuck
  | _ => .stuck
theorem arm_pick (a b : Expr) (args : List Expr) (kws : List Keyword) (env : PySem.Env) : eval (.Call (.Subscript a b p) args kws pos) env = (do
    callWith pos (← eval (.Subscript a b p) env) [] (backTo pos (starEach args env)) (backToKw pos (keywordEach kws env))) := rfl
theorem e_pick2 {h : Option (Nat × Addr × Er)} (F : FnS X.prog X.w X.K X.mg X.base x k ar f n []) (G : FnS X.prog X.w X.K X.mg X.base y k' ar g n []) (hr : Room k X.A) (hr' : Room k' X.A) (tk : Takes X W) (hi : PE X ie (tE (sta X h) W Γ mi ni)) (ha : PA X (e :: es) (tA (sta X h) W Γ mas)) (hml : ∀ η ds, mas η = .ok ds → ds.length = es.length + 1) (hlen : es.length + 1 = ar := by rfl)
    (hg : Gl X x := by rfl) (hdb : (x == ("__debug__" : Str)) = false := by decide) (hg2 : Gl X y := by rfl) (hdb2 : (y == ("__debug__" : Str)) = false := by decide) (hs : PlainIx ie := by intro _ _; rfl)
    (l1 : starEach [.Name x p1, .Name y p2] X.env = (false, eval (.Name x p1) X.env) :: starEach [.Name y p2] X.env := by rfl) (l2 : starEach [.Name y p2] X.env = (false, eval (.Name y p2) X.env) :: starEach [] X.env := by rfl)
    (he : starEach (e :: es) X.env = (false, eval e X.env) :: starEach es X.env := by rfl) (hpl : (backTo pos (starEach es X.env)).any (·.1) = false := by rfl) :
    PE X (.Call (.Subscript (.List [.Name x p1, .Name y p2] p3) ie p) (e :: es) [] pos) (tE (sta X h) W Γ (dPick2 f g mi mas) n) := by
  refine ⟨fun pins s σ H Q I w => ?_⟩
  obtain ⟨fA, _, _, _, _, hm, _⟩ := F.ex
  obtain ⟨gA, _, _, _, _, hm2, _⟩ := G.ex
  rw [arm_pick]
  refine wpAny_bind ?_
  have hix := pe_ix (pos := p) ix_list (pe_lst (pos := p3) (pa_cons (pe_glob (X := X) (v := .ref fA) (pos := p1) hg hm rfl hdb) (pa_cons (pe_glob (X := X) (v := .ref gA) (pos := p2) hg2 hm2 rfl hdb2) pa_nil l2) l1)) hi hs
  refine thn (hix.run pins s σ H (fun v H1 => (v = .ref fA ∧ tE (sta X h) W Γ (dCall f mas) n σ H1 Q) ∨ (v = .ref gA ∧ tE (sta X h) W Γ (dCall g mas) n σ H1 Q)) I ?_) fun u s1 ⟨v, H1, I1, rv, q⟩ => ?_
  · obtain ⟨H0, G0, Hs, F', η, ok, pp⟩ := w
    refine ⟨(by decide : 2 ≤ sizeLine), fun q hq => ?_⟩
    have st0 : Step H Hs (upd H q (.lst [.ref fA, .ref gA])) (upd Hs q (.lst [.ref fA, .ref gA])) [] := Step.newS ok.sub hq
    have ok0 := ok.step st0
    refine tE.use ok0 (((Post.bind pp).up st0.all).imp fun i pi v H1 Hs1 st1 ri ok1 => ?_)
    split at pi
    · rename_i j
      unfold Rep at ri
      subst ri
      have hsq : SqL X.K H1 q [.ref fA, .ref gA] := SqL.of (st1.all _ _ (by rw [upd_same]))
      have fin : ∀ (f' : List D → Res D), Post (sta X h) W σ H (dCall f' mas η) (fun d => ∀ (v : V) (H' Hs' : Hp) (Fr : List Addr), Step H Hs H' Hs' Fr → Own (sta X h) H' Hs' d n v Fr → Q v H') → tE (sta X h) W Γ (dCall f' mas) n σ H1 Q := fun f' p' =>
        ⟨H0, G0, Hs1, F', η, ok1, (p'.up (st0.trans st1).all).imp fun d k v' H' Hs' Fr st o => k v' H' Hs' Fr ((st0.trans st1).trans st) o⟩
      split at pi
      · rename_i e0
        subst e0
        exact ⟨q, _, 0, .ref fA, rfl, rfl, hsq, rfl, .inl ⟨rfl, fin f pi⟩⟩
      · split at pi
        · rename_i e1
          subst e1
          exact ⟨q, _, 1, .ref gA, rfl, rfl, hsq, rfl, .inr ⟨rfl, fin g pi⟩⟩
        · exact pi.elim
    · exact pi.elim
  · rcases q with ⟨rfl, q⟩ | ⟨rfl, q⟩
    · obtain rfl : u = .ref fA := by cases rv; rfl
      exact call_at F hm hr tk ha hlen hml he hpl I1 q
    · obtain rfl : u = .ref gA := by cases rv; rfl
      exact call_at G hm2 hr' tk ha hlen hml he hpl I1 q
end
end VL
/-! VLHead: a law's end. -/
namespace VL
open PySem PySem.Spec L2
/-- no list among the module's own things -/
def noLst (K : PySem.W.Frag) : Bool := K.all fun p => decide (p.2.cls ≠ .type "list")
theorem noLst_of {K : PySem.W.Frag} (h : noLst K = true) {a : Addr} {o : Obj} (e : K.lookup a = some o) : o.cls ≠ .type "list" := by
  have key : ∀ l : List (Addr × Obj), (l.all fun p => decide (p.2.cls ≠ .type "list")) = true → l.lookup a = some o → o.cls ≠ .type "list" := by
    intro l
    induction l with
    | nil => intro _ q; cases q
    | cons p r ih =>
      intro hl q
      rw [List.all_cons, Bool.and_eq_true] at hl
      obtain ⟨b, u⟩ := p
      have q2 : (match a == b with | true => some u | false => r.lookup a) = some o := q
      cases hb : (a == b) with
      | true =>
        rw [hb] at q2
        have z : u = o := Option.some.inj q2
        rw [← z]
        exact of_decide_eq_true hl.1
      | false =>
        rw [hb] at q2
        exact ih hl.2 q2
  exact key K h e
def obsV (fa : List He.Fa) (fn : List He.DefD) (K : PySem.W.Frag) : (Bool × Bool) × He.AlD := ((erB K && clsB K, noLst K), He.obsD fa fn K)
def obsVG (n : Nat) (fa : List He.Fa) (fn : List He.DefD) (g : Addr → Option Obj) : (Bool × Bool) × He.AlD := obsV fa fn (He.frG g (He.asD g n))
structure SaysV (fa : List He.Fa) (fn : List He.DefD) (K : PySem.W.Frag) : Prop where
  er : erB K = true
  cl : clsB K = true
  nl : noLst K = true
  d : He.SaysD fa fn K
def hookV (n : Nat) (fa : List He.Fa) (fn : List He.DefD) : PySem.W.Hook where
  α := (Bool × Bool) × He.AlD
  obs := fun s => obsVG n fa fn s.heap.get?
  val := fun _ => ((true, true), He.valD fn)
  says := fun _ h => ∃ K : PySem.W.Frag, K.In h ∧ SaysV fa fn K
  of := fun _ _ e => ⟨_, He.frG_in, ⟨(Bool.and_eq_true_iff.mp (congrArg (fun z : (Bool × Bool) × He.AlD => z.1.1) e)).1, (Bool.and_eq_true_iff.mp (congrArg (fun z : (Bool × Bool) × He.AlD => z.1.1) e)).2, congrArg (fun z : (Bool × Bool) × He.AlD => z.1.2) e, congrArg (fun z : (Bool × Bool) × He.AlD => z.2) e⟩⟩
  keeps := fun _ _ _ ⟨K, hK, c⟩ k => ⟨K, PySem.W.Frag.In.keeps hK k, c⟩
theorem obsVG_eq {n : Nat} {fa : List He.Fa} {fn : List He.DefD} {g : Addr → Option Obj} {s : Shared} (h : ∀ a, g a = s.heap.get? a) : obsVG n fa fn g = (hookV n fa fn).obs s := by
  have e : g = s.heap.get? := funext h
  rw [e] <;> rfl
theorem walk_ofV {l : PySem.W.OpenLaw} {n k : Nat} {q : Program} {loose : List Str} {XP : (Str → Option Value) → Heap → Prop} {YP : World → Heap → Prop} {d : DefRec} {x : Str}
    (hn : l.most = some n) (hn2 : n ≤ sizeLine) (hdf : d.params.defaults = []) (hr : Room k PySem.callerA)
    (F : ∀ (w : World) (mg : Str → Option Value) (fa : Addr) (h : Heap), YP w h → h.Ns mainGlobals mg → mg d.name = some (.ref fa) →
      ∃ (K : PySem.W.Frag) (fd : FuncData) (sp : Sp), K.In h ∧ noLst K = true ∧ (∀ (s : Shared) (u : Value), BindsTo s fd ⟨[u], []⟩ [(x, u)]) ∧
        (∀ (H : Hp) (a : Addr) (ns : List Int), ns.length ≤ n → (∀ z ∈ ns, Builtin.Int.intBits z ≤ 1048576) → Rd H a (.lst (ns.map V.int)) → sp [.ref a] H (fun v _ => v = .bl true) fun _ _ _ => False) ∧
        ∀ base : Heap, K.In base → base.Ns mainGlobals mg → FnOk l.prog w K mg base (L2.CX l.prog w) k fa fd [x] sp) :
    PySem.W.WalkO q loose XP YP l.row.toRowW d [] (fun f vs => PySem.call f vs) := by
  refine Att.attach_callB hn hdf fun w s₀ s₁ mg mb fa o pm cd doc a vs ns G Y ho hd hcd hmg hobj hints hlen hbits hg => ?_
  obtain ⟨K, fd, sp, KX, hK, hb, hsp, hF⟩ := F w mg fa _ Y G.T.g hmg
  refine law_call KX G.T.g G.T.b G.T.builtins G.T.nolimit hg hobj hints (Nat.le_trans hlen hn2) hr hF hb (fun H hO hS => hsp H a ns hlen hbits ?_) fun H e s' z => ?_
  · rcases hS with h | ⟨o2, its, m, hk, hc, _⟩
    · exact h
    · exact absurd hc (noLst_of hK hk)
  · obtain ⟨_, _, _, _, _, _, _, _, _, _, _, _, z⟩ := z
    exact z.elim
/-- the law's promise, from what its def does -/
theorem law_sp {K : PySem.W.Frag} {mg : Str → Option Value} {f : List D → Res D} {H : Hp} {a : Addr} {ns : List Int} (h : Rd H a (.lst (ns.map V.int))) (e : f [.lst (ns.map D.int)] = .ok (.bl true)) :
    spF ⟨K, mg, none⟩ 1 f 0 [.ref a] H (fun v _ => v = .bl true) fun _ _ _ => False := by
  refine ⟨[.lst (ns.map D.int)], H, rfl, Same.refl _, Reps.one ?_, ?_⟩
  · unfold Rep
    exact ⟨a, _, rfl, h, Reps.of_ints ns⟩
  · rw [e]
    intro v H' Hs' Fr st o
    have z := (Own.zero.mp o).2
    unfold Rep at z
    exact z
end VL
/-! VLMath: reckoning with what the pieces do. -/
namespace VL
open PySem
theorem nrf {α : Type} {a b : α} (h : a = b) : a = b := h
/-! ### evaluation, for simp -/
section
variable {η : Env} {a b c : M D} {mas mbs : M (List D)} {qa qb : M Bool} {f g : D → D → Res D} {m n : Env → Fl} {i k : Nat} {d : D} {o : Option D}
@[simp] theorem ev_var0 : dVar 0 (some d :: η) = .ok d := nrf rfl
@[simp] theorem ev_varS : dVar (i + 1) (o :: η) = dVar i η := nrf rfl
@[simp] theorem ev_lit : dLit d η = .ok d := nrf rfl
@[simp] theorem ev_op1 {f : D → Res D} : dOp1 f a η = (a η).bind f := nrf rfl
@[simp] theorem ev_op2 : dOp2 f a b η = (a η).bind fun x => (b η).bind fun y => f x y := nrf rfl
@[simp] theorem ev_chain : dChain f g a b c η = (a η).bind fun x => (b η).bind fun y => (f x y).bind fun r => (toB r).bind fun k => if k then (c η).bind fun z => g y z else .ok (.bl false) := nrf rfl
@[simp] theorem ev_and : dAnd a b η = (a η).bind fun x => (toB x).bind fun k => if k then b η else .ok (.bl false) := nrf rfl
@[simp] theorem ev_or : dOr a b η = (a η).bind fun x => (toB x).bind fun k => if k then .ok (.bl true) else b η := nrf rfl
@[simp] theorem ev_not : dNot a η = (a η).bind fun x => (toB x).bind fun k => .ok (.bl (!k)) := nrf rfl
@[simp] theorem ev_qB : qB a η = (a η).bind toB := nrf rfl
@[simp] theorem ev_qTru : qTru a η = (a η).bind D.truth := nrf rfl
@[simp] theorem ev_qAnd : qAnd qa qb η = (qa η).bind fun k => if k then qb η else .ok false := nrf rfl
@[simp] theorem ev_qOr : qOr qa qb η = (qa η).bind fun k => if k then .ok true else qb η := nrf rfl
@[simp] theorem ev_qNot : qNot qa η = (qa η).bind fun k => .ok (!k) := nrf rfl
@[simp] theorem ev_if : dIf qa a b η = (qa η).bind fun k => if k then a η else b η := nrf rfl
@[simp] theorem ev_nil : aNil η = .ok [] := nrf rfl
@[simp] theorem ev_cons : aCons a mas η = (a η).bind fun x => (mas η).bind fun xs => .ok (x :: xs) := nrf rfl
@[simp] theorem ev_tup : dTup mas η = (mas η).bind fun xs => if xs.length ≤ line then .ok (.tup xs) else .stuck := nrf rfl
@[simp] theorem ev_lst : dLst mas η = (mas η).bind fun xs => if xs.length ≤ line then .ok (.lst xs) else .stuck := nrf rfl
@[simp] theorem ev_call {f : List D → Res D} : dCall f mas η = (mas η).bind f := nrf rfl
@[simp] theorem ev_callK {f : List D → List D → Res D} : dCallK f mas mbs η = (mas η).bind fun xs => (mbs η).bind fun ys => f xs ys := nrf rfl
@[simp] theorem ev_oSome : oSome a η = (a η).bind toI := nrf rfl
@[simp] theorem ev_iSeq : iSeq a η = (a η).bind items := nrf rfl
@[simp] theorem ev_iRev : iRev a η = (a η).bind fun x => (lstOf x).bind fun xs => .ok xs.reverse := nrf rfl
@[simp] theorem ev_iEnum : iEnum a η = (a η).bind fun x => (lstOf x).bind fun xs => .ok (enumD 0 xs) := nrf rfl
@[simp] theorem ev_iZip : iZip a b η = (a η).bind fun x => (b η).bind fun y => (lstOf x).bind fun xs => (lstOf y).bind fun ys => .ok (zipD xs ys) := nrf rfl
@[simp] theorem ev_bind {α β : Type} (x : α) (f : α → Res β) : (Res.ok x).bind f = f x := nrf rfl
@[simp] theorem ev_bindE {α β : Type} (e : Er) (f : α → Res β) : (Res.exc e : Res α).bind f = .exc e := nrf rfl
@[simp] theorem ev_bindS {α β : Type} (f : α → Res β) : (Res.stuck : Res α).bind f = .stuck := nrf rfl
@[simp] theorem ev_toB {x : Bool} : toB (.bl x) = .ok x := nrf rfl
@[simp] theorem ev_toI {x : Int} : toI (.int x) = .ok (some x) := nrf rfl
@[simp] theorem ev_items {xs : List D} : items (.lst xs) = .ok xs := nrf rfl
@[simp] theorem ev_itemsT {xs : List D} : items (.tup xs) = .ok xs := nrf rfl
@[simp] theorem ev_lstOf {xs : List D} : lstOf (.lst xs) = .ok xs := nrf rfl
@[simp] theorem ev_truB {x : Bool} : D.truth (.bl x) = .ok x := nrf rfl
@[simp] theorem ev_truI {x : Int} : D.truth (.int x) = .ok (x != 0) := nrf rfl
@[simp] theorem ev_truN : D.truth .non = .ok false := nrf rfl
@[simp] theorem ev_truL {x : List D} : D.truth (.lst x) = .ok (!x.isEmpty) := nrf rfl
/-! operators at ints -/
@[simp] theorem ev_add {x y : Int} : opAdd (.int x) (.int y) = .ok (.int (x + y)) := nrf rfl
@[simp] theorem ev_addI {x y : Int} : opAddI (.int x) (.int y) = .ok (.int (x + y)) := nrf rfl
@[simp] theorem ev_sub {x y : Int} : opSub (.int x) (.int y) = .ok (.int (x - y)) := nrf rfl
theorem ev_mul {x y : Int} (h : mulOk x y = true) : opMul (.int x) (.int y) = .ok (.int (x * y)) := if_pos h
theorem ev_mulL {xs : List D} {k : Int} (h1 : k < 16777217) (h2 : -16777217 < k) (h3 : xs.length * k.toNat ≤ line) : opMul (.lst xs) (.int k) = .ok (.lst (List.replicate k.toNat xs).flatten) := if_pos ⟨h1, h2, h3⟩
theorem ev_div {x y : Int} (h : divOk x y = true) : opDiv (.int x) (.int y) = .ok (.int (x / y)) := if_pos h
theorem ev_mod {x y : Int} (h : 0 < y) : opMod (.int x) (.int y) = .ok (.int (x % y)) := if_pos h
theorem ev_pow {x y : Int} (h : powOk x y = true) : opPow (.int x) (.int y) = .ok (.int (x ^ y.toNat)) := if_pos h
theorem ev_shl {x y : Int} (h : shlOk x y = true) : opShl (.int x) (.int y) = .ok (.int (x * 2 ^ y.toNat)) := if_pos h
theorem ev_shr {x y : Int} (h : 0 ≤ y) : opShr (.int x) (.int y) = .ok (.int (x / 2 ^ y.toNat)) := if_pos h
theorem ev_bitAnd {x y : Int} : opAnd (.int x) (.int y) = .ok (.int (Builtin.bitAnd x y)) := rfl
theorem ev_bitOr {x y : Int} : opOr (.int x) (.int y) = .ok (.int (Builtin.bitOr x y)) := rfl
theorem ev_bitXor {x y : Int} : opXor (.int x) (.int y) = .ok (.int (Builtin.bitXor x y)) := rfl
@[simp] theorem ev_neg {x : Int} : opNeg (.int x) = .ok (.int (-x)) := nrf rfl
@[simp] theorem ev_cmp {p : Int → Int → Bool} {x y : Int} : cmpI p (.int x) (.int y) = .ok (.bl (p x y)) := nrf rfl
@[simp] theorem ev_eqI {x y : Int} : opEq (.int x) (.int y) = .ok (.bl (decide (x = y))) := nrf rfl
@[simp] theorem ev_neI {x y : Int} : opNe (.int x) (.int y) = .ok (.bl (!decide (x = y))) := nrf rfl
@[simp] theorem ev_eqB {x y : Bool} : opEq (.bl x) (.bl y) = .ok (.bl (decide (x = y))) := by cases x <;> cases y <;> rfl
@[simp] theorem ev_neB {x y : Bool} : opNe (.bl x) (.bl y) = .ok (.bl (!decide (x = y))) := by cases x <;> cases y <;> rfl
@[simp] theorem ev_abs {x : Int} : fAbs [.int x] = .ok (.int (if x < 0 then -x else x)) := nrf rfl
@[simp] theorem ev_int {x : Int} : fInt [.int x] = .ok (.int x) := nrf rfl
@[simp] theorem ev_intB {x : Bool} : fInt [.bl x] = .ok (.int (if x then 1 else 0)) := nrf rfl
@[simp] theorem ev_len {xs : List D} : fLen [.lst xs] = .ok (.int xs.length) := nrf rfl
@[simp] theorem ev_lenT {xs : List D} : fLen [.tup xs] = .ok (.int xs.length) := nrf rfl
@[simp] theorem ev_max2 {x y : Int} : fMax2 [.int x, .int y] = .ok (.int (if y > x then y else x)) := nrf rfl
@[simp] theorem ev_min2 {x y : Int} : fMin2 [.int x, .int y] = .ok (.int (if y < x then y else x)) := nrf rfl
@[simp] theorem ev_list {xs : List D} : fList [.lst xs] = .ok (.lst xs) := nrf rfl
@[simp] theorem ev_listT {xs : List D} : fList [.tup xs] = .ok (.lst xs) := nrf rfl
@[simp] theorem ev_tuple {xs : List D} : fTuple [.lst xs] = .ok (.tup xs) := nrf rfl
@[simp] theorem ev_tupleT {xs : List D} : fTuple [.tup xs] = .ok (.tup xs) := nrf rfl
@[simp] theorem ty_int {x : Int} : opIsTy "int" (.int x) = .ok (.bl true) := nrf rfl
@[simp] theorem ty_intb {x : Int} : opIsTy "bool" (.int x) = .ok (.bl false) := nrf rfl
@[simp] theorem ty_boolb {x : Bool} : opIsTy "bool" (.bl x) = .ok (.bl true) := nrf rfl
@[simp] theorem ty_booli {x : Bool} : opIsTy "int" (.bl x) = .ok (.bl true) := nrf rfl
@[simp] theorem ty_lst {x : List D} : opIsTy "list" (.lst x) = .ok (.bl true) := nrf rfl
@[simp] theorem ty_tup {x : List D} : opIsTy "tuple" (.tup x) = .ok (.bl true) := nrf rfl
@[simp] theorem ty_lsti {x : List D} : opIsTy "int" (.lst x) = .ok (.bl false) := nrf rfl
@[simp] theorem ty_tupl {x : List D} : opIsTy "list" (.tup x) = .ok (.bl false) := nrf rfl
@[simp] theorem ty_lstt {x : List D} : opIsTy "tuple" (.lst x) = .ok (.bl false) := nrf rfl
@[simp] theorem ev_isNone : opIsNone d = .ok (.bl d.isNon) := nrf rfl
@[simp] theorem ev_notNone : opNotNone d = .ok (.bl (!d.isNon)) := nrf rfl
/-! items -/
theorem ix_nat {n : Nat} {j : Nat} (h : j < n) : ixOf n (j : Int) = some j := by
  unfold ixOf
  rw [if_pos (by omega), if_pos (by omega), Int.toNat_natCast]
theorem atD_nat {xs : List D} {j : Nat} {d : D} (h : xs[j]? = some d) : atD xs (j : Int) = some d := by
  unfold atD
  rw [ix_nat (List.getElem?_eq_some_iff.mp h).1]
  exact h
theorem ev_ix {xs : List D} {i : Int} {d : D} (h : atD xs i = some d) : opIx (.lst xs) (.int i) = .ok d := by
  show (match atD xs i with | some d => Res.ok d | none => .stuck) = _
  rw [h]
theorem ev_ixT {xs : List D} {i : Int} {d : D} (h : atD xs i = some d) : opIx (.tup xs) (.int i) = .ok d := by
  show (match atD xs i with | some d => Res.ok d | none => .stuck) = _
  rw [h]
theorem ev_ixN {xs : List D} {j : Nat} {d : D} (h : xs[j]? = some d) : opIx (.lst xs) (.int (j : Int)) = .ok d := ev_ix (atD_nat h)
@[simp] theorem ev_ix0 {xs : List D} : opIx (.lst (d :: xs)) (.int 0) = .ok d := ev_ix (atD_nat (j := 0) rfl)
@[simp] theorem ev_ixT0 {xs : List D} : opIx (.tup (d :: xs)) (.int 0) = .ok d := ev_ixT (atD_nat (j := 0) rfl)
@[simp] theorem ev_ixT1 {e : D} {xs : List D} : opIx (.tup (d :: e :: xs)) (.int 1) = .ok e := ev_ixT (atD_nat (j := 1) rfl)
@[simp] theorem ev_ixT2 {e e2 : D} {xs : List D} : opIx (.tup (d :: e :: e2 :: xs)) (.int 2) = .ok e2 := ev_ixT (atD_nat (j := 2) rfl)
@[simp] theorem ev_ix1 {e : D} {xs : List D} : opIx (.lst (d :: e :: xs)) (.int 1) = .ok e := ev_ix (atD_nat (j := 1) rfl)
/-! statements -/
@[simp] theorem ev_on {α : Type} {x : α} {k : α → Fl} : onRes (.ok x) η k = k x := nrf rfl
@[simp] theorem ev_onE {α : Type} {e : Er} {k : α → Fl} : onRes (.exc e) η k = .ex e η := nrf rfl
@[simp] theorem ev_next : sNext η = .nx η := nrf rfl
@[simp] theorem ev_break : sBreak η = .bk η := nrf rfl
@[simp] theorem ev_cont : sCont η = .ct η := nrf rfl
@[simp] theorem ev_seq : sSeq m n η = match m η with
  | .nx η' => n η'
  | r => r := nrf rfl
@[simp] theorem ev_expr : sExpr a η = onRes (a η) η fun _ => .nx η := nrf rfl
@[simp] theorem ev_asg {t : Bd} : sAsg a t η = onRes (a η) η fun d => match t d η with | some η' => .nx η' | none => .stuck := nrf rfl
@[simp] theorem ev_aug : sAug i f a η = onRes (dOp2 f (dVar i) a η) η fun d => if i < η.length then .nx (η.set i (some d)) else .stuck := nrf rfl
@[simp] theorem ev_set {x : M D} : sSet k x a η = onRes (a η) η fun d => onRes (lstAt η k) η fun xs => onRes (x η) η fun x => match x with
  | .int z => (match setD xs z d with | some ys => .nx (η.set k (some (.lst ys))) | none => .stuck)
  | _ => .stuck := nrf rfl
@[simp] theorem ev_app : sApp k a η = onRes (lstAt η k) η fun xs => onRes (a η) η fun d => if xs.length < line then .nx (η.set k (some (.lst (xs ++ [d])))) else .stuck := nrf rfl
@[simp] theorem ev_ret : sRet a η = onRes (a η) η fun d => .rt d := nrf rfl
@[simp] theorem ev_retN : sRetN η = .rt .non := nrf rfl
@[simp] theorem ev_sif : sIf qa m n η = onRes (qa η) η fun k => if k then m η else n η := nrf rfl
@[simp] theorem ev_raise {e : Er} : sRaise e η = .ex e η := nrf rfl
@[simp] theorem ev_for {it : M (List D)} {t : Bd} : sFor it t m η = onRes (it η) η fun xs => forGo t m xs η := nrf rfl
@[simp] theorem ev_forN {t : Bd} : forGo t m [] η = .nx η := nrf rfl
@[simp] theorem ev_forC {t : Bd} {x : D} {xs : List D} : forGo t m (x :: xs) η = (match t x η with
    | some η1 => (match m η1 with
      | .nx η' => forGo t m xs η'
      | .ct η' => forGo t m xs η'
      | .bk η' => .nx η'
      | r => r)
    | none => .stuck) := nrf rfl
@[simp] theorem ev_bname0 {o : Option D} : bName 0 d (o :: η) = some (some d :: η) := nrf rfl
@[simp] theorem ev_bnameS {o : Option D} : bName (i + 1) d (o :: η) = (bName i d η).map (o :: ·) := by
  unfold bName
  by_cases h : i < η.length <;> simp [h]
@[simp] theorem ev_btup {r : List D → Env → Option Env} {ds : List D} : bTup r (.tup ds) η = r ds η := nrf rfl
@[simp] theorem ev_btupL {r : List D → Env → Option Env} {ds : List D} : bTup r (.lst ds) η = r ds η := nrf rfl
@[simp] theorem ev_bnil : bNil [] η = some η := nrf rfl
@[simp] theorem ev_bcons {t : Bd} {r : List D → Env → Option Env} {ds : List D} : bCons t r (d :: ds) η = (t d η).bind (r ds) := nrf rfl
@[simp] theorem ev_lstAt0 {xs : List D} : lstAt (some (.lst xs) :: η) 0 = .ok xs := nrf rfl
@[simp] theorem ev_lstAtS : lstAt (o :: η) (i + 1) = lstAt η i := nrf rfl
@[simp] theorem ev_lenAt : lenAt k η = (lstAt η k).bind fun xs => .ok (.int xs.length) := nrf rfl
@[simp] theorem ev_isEr {e c : Er} (h : (e.own && c.own) = true) : dIsEr e c η = .ok (.bl (e.sub c)) := if_pos h
theorem mk_fn {n m : Nat} {body : Env → Fl} {ds : List D} (h : ds.length = n) : mkFn n m body ds = match body (ds.map some ++ List.replicate (m - n) none) with
  | .rt d => .ok d
  | .nx _ => .ok .non
  | .ex e _ => .exc e
  | _ => .stuck := if_pos h
theorem sPar_ap {i j : Nat} : sPar i j a b η = onRes ((a η).bind fun x => (b η).bind fun y => .ok (x, y)) η fun r => if i < η.length ∧ j < η.length then .nx ((η.set i (some r.1)).set j (some r.2)) else .stuck := rfl
end
@[simp] theorem le_line {n : Nat} (h : n ≤ 100000) : n ≤ line := by unfold line; omega
@[simp] theorem lt_line {n : Nat} (h : n ≤ 100000) : n < line := by unfold line; omega
theorem lim_in {n : Nat} (hn : n ≤ 1000000000) : -lim62 ≤ (n : Int) ∧ (n : Int) < lim62 := by
  have h : lim62 = 4611686018427387904 := rfl
  rw [h]; omega
theorem iRange_ok {a : M D} {η : Env} {n : Nat} (h : a η = .ok (.int n)) (hn : n ≤ 1000000000) : iRange1 a η = .ok (rangeD 0 n) := by
  unfold iRange1
  rw [h, ev_bind]
  show (if -lim62 ≤ (n : Int) ∧ (n : Int) < lim62 then Res.ok (rangeD 0 (n : Int).toNat) else .stuck) = _
  rw [if_pos (lim_in hn), Int.toNat_natCast]
theorem range_len {lo : Int} {n : Nat} : (rangeD lo n).length = n := by simp [rangeD]
theorem ev_mulN {xs : List D} {k : Nat} (h1 : k ≤ 100000) (h3 : xs.length * k ≤ 100000) : opMul (.lst xs) (.int (k : Int)) = .ok (.lst (List.replicate k xs).flatten) := by
  rw [ev_mulL (by omega) (by omega) (le_line (by rw [Int.toNat_natCast]; exact h3)), Int.toNat_natCast]
theorem ev_addL {xs ys : List D} (h : xs.length + ys.length ≤ 100000) : opAdd (.lst xs) (.lst ys) = .ok (.lst (xs ++ ys)) := if_pos (le_line h)
/-! slices -/
@[simp] theorem ev_oNone {η : Env} : (oNone : M (Option Int)) η = .ok none := nrf rfl
@[simp] theorem ev_slL {η : Env} {a : M D} {lo hi : M (Option Int)} : dSlL a lo hi η = (a η).bind fun x => (lo η).bind fun l => (hi η).bind fun h => opSlL x l h := nrf rfl
@[simp] theorem ev_sl {η : Env} {a : M D} {lo hi : M (Option Int)} : dSl a lo hi η = (a η).bind fun x => (lo η).bind fun l => (hi η).bind fun h => opSl x l h := nrf rfl
@[simp] theorem op_slL {xs : List D} {l h : Option Int} : opSlL (.lst xs) l h = .ok (.lst (cutD xs l h)) := nrf rfl
theorem cut_map {f : Int → D} {xs : List Int} {lo hi : Option Int} : ∃ ys : List Int, cutD (xs.map f) lo hi = ys.map f ∧ (∀ y ∈ ys, y ∈ xs) := by
  refine ⟨(xs.drop (slIx xs.length 0 lo)).take (slIx xs.length xs.length hi - slIx xs.length 0 lo), ?_, fun y hy => List.mem_of_mem_drop (List.mem_of_mem_take hy)⟩
  unfold cutD
  rw [List.length_map, ← List.map_drop, ← List.map_take]
/-! ### loops -/
theorem forGo_nx {t : Bd} {m : Env → Fl} {x : D} {xs : List D} {η η1 η' : Env} (h1 : t x η = some η1) (h2 : m η1 = .nx η') : forGo t m (x :: xs) η = forGo t m xs η' := by
  rw [ev_forC, h1]
  simp only [h2]
theorem forGo_ct {t : Bd} {m : Env → Fl} {x : D} {xs : List D} {η η1 η' : Env} (h1 : t x η = some η1) (h2 : m η1 = .ct η') : forGo t m (x :: xs) η = forGo t m xs η' := by
  rw [ev_forC, h1]
  simp only [h2]
theorem forGo_bk {t : Bd} {m : Env → Fl} {x : D} {xs : List D} {η η1 η' : Env} (h1 : t x η = some η1) (h2 : m η1 = .bk η') : forGo t m (x :: xs) η = .nx η' := by
  rw [ev_forC, h1]
  simp only [h2]
theorem forGo_rt {t : Bd} {m : Env → Fl} {x : D} {xs : List D} {η η1 : Env} {d : D} (h1 : t x η = some η1) (h2 : m η1 = .rt d) : forGo t m (x :: xs) η = .rt d := by
  rw [ev_forC, h1]
  simp only [h2]
theorem forGo_ex {t : Bd} {m : Env → Fl} {x : D} {xs : List D} {η η1 η' : Env} {er : Er} (h1 : t x η = some η1) (h2 : m η1 = .ex er η') : forGo t m (x :: xs) η = .ex er η' := by
  rw [ev_forC, h1]
  simp only [h2]
theorem forGo_inv {t : Bd} {m : Env → Fl} (P : List D → Env → Prop) (step : ∀ x xs η, P (x :: xs) η → ∃ η1 η', t x η = some η1 ∧ (m η1 = .nx η' ∨ m η1 = .ct η') ∧ P xs η') : ∀ xs η, P xs η → ∃ η', forGo t m xs η = .nx η' ∧ P [] η'
  | [], η, h => ⟨η, rfl, h⟩
  | x :: xs, η, h => by
    obtain ⟨η1, η', e1, e2, h2⟩ := step x xs η h
    obtain ⟨η2, e3, h3⟩ := forGo_inv P step xs η' h2
    refine ⟨η2, ?_, h3⟩
    rw [ev_forC, e1]
    rcases e2 with e2 | e2 <;> (simp only [e2]; exact e3)
theorem forGo_keep {t : Bd} {m : Env → Fl} (I : Env → Prop) : ∀ (xs : List D), (∀ x ∈ xs, ∀ η, I η → ∃ η1 η', t x η = some η1 ∧ (m η1 = .nx η' ∨ m η1 = .ct η') ∧ I η') → ∀ η, I η → ∃ η', forGo t m xs η = .nx η' ∧ I η'
  | [], _, η, h => ⟨η, rfl, h⟩
  | x :: xs, hs, η, h => by
    obtain ⟨η1, η', e1, e2, h2⟩ := hs x (List.mem_cons_self ..) η h
    obtain ⟨η2, e3, h3⟩ := forGo_keep I xs (fun y hy => hs y (List.mem_cons_of_mem _ hy)) η' h2
    refine ⟨η2, ?_, h3⟩
    rw [ev_forC, e1]
    rcases e2 with e2 | e2 <;> (simp only [e2]; exact e3)
theorem compGo_map {t : Bd} {e : M D} {η : Env} {g : D → D} : ∀ (xs acc : List D), (∀ x ∈ xs, ∃ η1, t x η = some η1 ∧ e η1 = .ok (g x)) → acc.length + xs.length ≤ line → compGo t qYes e η xs acc = .ok (acc ++ xs.map g)
  | [], acc, _, _ => by unfold compGo; simp
  | x :: xs, acc, h, hl => by
    obtain ⟨η1, e1, e2⟩ := h x (List.mem_cons_self ..)
    unfold compGo
    rw [e1]
    simp only [e2]
    rw [if_pos (by simp at hl; omega), compGo_map xs _ (fun y hy => h y (List.mem_cons_of_mem _ hy)) (by simp at hl ⊢; omega)]
    simp
theorem dComp_map {it : M (List D)} {t : Bd} {e : M D} {own : List Nat} {η : Env} {xs : List D} (g : D → D) (h1 : it η = .ok xs) (h : ∀ x ∈ xs, ∃ η1, t x (wipeE η own) = some η1 ∧ e η1 = .ok (g x)) (hl : xs.length ≤ line) : dComp it t qYes e own η = .ok (.lst (xs.map g)) := by
  unfold dComp
  rw [h1, ev_bind, compGo_map xs [] h (by simpa using hl)]
  rfl
/-! ### how great an int is -/
def Sz (n : Nat) (i : Int) : Prop := i.natAbs < 2 ^ n
theorem Sz.mono {n m : Nat} {i : Int} (h : Sz n i) (l : n ≤ m) : Sz m i := Nat.lt_of_lt_of_le h (Nat.pow_le_pow_right (by decide) l)
theorem Sz.neg {n : Nat} {i : Int} (h : Sz n i) : Sz n (-i) := by unfold Sz at *; rwa [Int.natAbs_neg]
theorem Sz.mul {n m : Nat} {i j : Int} (h : Sz n i) (k : Sz m j) : Sz (n + m) (i * j) := by
  unfold Sz at *
  rw [Int.natAbs_mul, Nat.pow_add]
  exact Nat.mul_lt_mul'' h k
theorem Sz.add {n : Nat} {i j : Int} (h : Sz n i) (k : Sz n j) : Sz (n + 1) (i + j) := by
  unfold Sz at *
  have := Int.natAbs_add_le i j
  rw [Nat.pow_succ]
  omega
theorem Sz.sub {n : Nat} {i j : Int} (h : Sz n i) (k : Sz n j) : Sz (n + 1) (i - j) := by
  rw [Int.sub_eq_add_neg]
  exact h.add k.neg
theorem Sz.le {n : Nat} {i j : Int} (h : Sz n j) (k : i.natAbs ≤ j.natAbs) : Sz n i := Nat.lt_of_le_of_lt k h
theorem Sz.of_range {n : Nat} {i j : Int} (h : Sz n j) (h1 : 0 ≤ i) (h2 : i ≤ j) : Sz n i := h.le (by omega)
theorem Sz.mod {m : Nat} {i j : Int} (h : Sz m j) (hj : 0 < j) : Sz m (i % j) := h.of_range (Int.emod_nonneg _ (by omega)) (Int.le_of_lt (Int.emod_lt_of_pos _ hj))
theorem Sz.div {n : Nat} {i j : Int} (h : Sz n i) (hj : 0 < j) : Sz n (i / j) := by
  refine h.le ?_
  have e := Int.ediv_mul_add_emod i j  
  have p := Int.emod_nonneg i (show j ≠ 0 by omega)
  have q := Int.emod_lt_of_pos i hj
  by_cases hi : 0 ≤ i
  · have a := Int.ediv_nonneg hi (Int.le_of_lt hj)
    have b := Int.ediv_le_self j hi
    omega
  · have a : i / j < 0 := Int.ediv_neg_of_neg_of_pos (by omega) hj
    have b : i ≤ i / j := by
      have c : (i / j) * j ≤ (i / j) * 1 := Int.mul_le_mul_of_nonpos_left (by omega) (by omega)
      have : i / j * j + i % j = i := e
      rw [Int.mul_one] at c
      by_cases hz : i ≤ i / j
      · exact hz
      · exfalso
        have d : (i / j + 1) * j ≤ 0 := Int.mul_nonpos_of_nonpos_of_nonneg (by omega) (by omega)
        rw [Int.add_mul, Int.one_mul] at d
        have d2 : (i / j + 1) * j ≤ (i / j + 1) * 1 := Int.mul_le_mul_of_nonpos_left (by omega) (by omega)
        rw [Int.add_mul, Int.one_mul, Int.mul_one] at d2
        omega
    omega
theorem Sz.log {n : Nat} {i : Int} (h : Sz (n + 1) i) : i.natAbs.log2 ≤ n := by
  by_cases hz : i.natAbs = 0
  · rw [hz]; exact Nat.zero_le _
  · have := (Nat.log2_lt hz).mpr h
    omega
theorem Sz.lit {n : Nat} {i : Int} (h : decide (i.natAbs < 2 ^ n) = true) : Sz n i := show i.natAbs < 2 ^ n from of_decide_eq_true h
theorem Sz.ofbits {i : Int} {n : Nat} (h : Builtin.Int.intBits i ≤ n) : Sz n i := by
  unfold Sz
  unfold Builtin.Int.intBits at h
  by_cases hz : i.natAbs = 0
  · rw [hz]; exact Nat.two_pow_pos n
  · have hi : (i == 0) = false := by
      have : i ≠ 0 := by omega
      simpa using this
    rw [hi] at h
    exact (Nat.log2_lt hz).mp (by simp at h; omega)
theorem mul_ok {n m : Nat} {i j : Int} (h : Sz n i) (k : Sz m j) (l : n + m ≤ 100000000) : mulOk i j = true := by
  unfold mulOk
  have a := (h.mono (Nat.le_add_right n 1)).log
  have b := (k.mono (Nat.le_add_right m 1)).log
  exact decide_eq_true (by omega)
theorem div_ok {i j : Int} (hj : 0 < j) (k : Sz 9000 j) : divOk i j = true := by
  unfold divOk
  have b := Sz.log (n := 8999) k
  simp [hj]
  left; omega
end VL
/-! VLEq: == of values without bools. -/
namespace VL
open PySem
mutual
def D.nb : D → Bool
  | .non => true
  | .int _ => true
  | .str x => PyData.strOk x
  | .lst xs => D.nbs xs
  | .tup xs => D.nbs xs
  | .bl _ => false
  | .byt _ => false
  | .ins _ _ => false
def D.nbs : List D → Bool
  | [] => true
  | d :: ds => D.nb d && D.nbs ds
end
mutual
def D.dep : D → Nat
  | .lst xs => D.deps xs + 1
  | .tup xs => D.deps xs + 1
  | .non => 0
  | .int _ => 0
  | .str _ => 0
  | .bl _ => 0
  | .byt _ => 0
  | .ins _ _ => 0
def D.deps : List D → Nat
  | [] => 0
  | d :: ds => max (D.dep d) (D.deps ds)
end
mutual
theorem dep_pd : ∀ d : D, d.nb = true → PyData.depth d.toPD = d.dep
  | .non, _ => rfl
  | .int _, _ => rfl
  | .str _, _ => rfl
  | .lst xs, h => by
    unfold D.nb at h
    unfold D.toPD PyData.depth D.dep
    rw [deps_pd xs h]
  | .tup xs, h => by
    unfold D.nb at h
    unfold D.toPD PyData.depth D.dep
    rw [deps_pd xs h]
  | .bl _, h => by cases h
  | .byt _, h => by cases h
  | .ins _ _, h => by cases h
theorem deps_pd : ∀ ds : List D, D.nbs ds = true → PyData.depthAll (D.toPDs ds) = D.deps ds
  | [], _ => rfl
  | d :: ds, h => by
    unfold D.nbs at h
    obtain ⟨h1, h2⟩ := Bool.and_eq_true_iff.mp h
    unfold D.toPDs PyData.depthAll D.deps
    rw [dep_pd d h1, deps_pd ds h2]
end
mutual
theorem plain_nb : ∀ d : D, d.nb = true → d.plain = true ∧ PyData.canLay0 d.toPD = true
  | .non, _ => ⟨rfl, rfl⟩
  | .int _, _ => ⟨rfl, rfl⟩
  | .str _, h => ⟨rfl, h⟩
  | .lst xs, h => plains_nb xs h
  | .tup xs, h => plains_nb xs h
  | .bl _, h => by cases h
  | .byt _, h => by cases h
  | .ins _ _, h => by cases h
theorem plains_nb : ∀ ds : List D, D.nbs ds = true → D.plains ds = true ∧ PyData.canLayAll0 (D.toPDs ds) = true
  | [], _ => ⟨rfl, rfl⟩
  | d :: ds, h => by
    unfold D.nbs at h
    obtain ⟨h1, h2⟩ := Bool.and_eq_true_iff.mp h
    obtain ⟨a1, a2⟩ := plain_nb d h1
    obtain ⟨b1, b2⟩ := plains_nb ds h2
    unfold D.plains D.toPDs PyData.canLayAll0
    rw [a1, a2, b1, b2]
    exact ⟨rfl, rfl⟩
end
theorem eqOk_nb {d : D} (h : d.nb = true) (hd : d.dep ≤ 64) : d.eqOk = true := by
  obtain ⟨h1, h2⟩ := plain_nb d h
  unfold D.eqOk SeqAt.shaped
  rw [h1, h2, dep_pd d h]
  simpa using hd
mutual
theorem eqv_nb : ∀ a b : D, a.nb = true → b.nb = true → (D.eqv a b = true ↔ a = b)
  | .non, b, _, hb => by cases b <;> first | (cases hb; done) | simp [D.eqv, D.toPD, PyData.eqv]
  | .int i, b, _, hb => by cases b <;> first | (cases hb; done) | simp [D.eqv, D.toPD, PyData.eqv]
  | .str x, b, _, hb => by cases b <;> first | (cases hb; done) | simp [D.eqv, D.toPD, PyData.eqv]
  | .lst xs, b, ha, hb => by
    cases b <;> first | (cases hb; done) | (simp [D.eqv, D.toPD, PyData.eqv]; done) | skip
    rename_i ys
    have z := eqvs_nb xs ys ha hb
    simp only [D.eqv, D.toPD, PyData.eqv, D.lst.injEq]
    exact z
  | .tup xs, b, ha, hb => by
    cases b <;> first | (cases hb; done) | (simp [D.eqv, D.toPD, PyData.eqv]; done) | skip
    rename_i ys
    have z := eqvs_nb xs ys ha hb
    simp only [D.eqv, D.toPD, PyData.eqv, D.tup.injEq]
    exact z
  | .bl _, _, h, _ => by cases h
  | .byt _, _, h, _ => by cases h
  | .ins _ _, _, h, _ => by cases h
theorem eqvs_nb : ∀ as bs : List D, D.nbs as = true → D.nbs bs = true → (PyData.eqvAll (D.toPDs as) (D.toPDs bs) = true ↔ as = bs)
  | [], [], _, _ => by simp [D.toPDs, PyData.eqvAll]
  | [], b :: bs, _, _ => by simp [D.toPDs, PyData.eqvAll]
  | a :: as, [], _, _ => by simp [D.toPDs, PyData.eqvAll]
  | a :: as, b :: bs, ha, hb => by
    unfold D.nbs at ha hb
    obtain ⟨a1, a2⟩ := Bool.and_eq_true_iff.mp ha
    obtain ⟨b1, b2⟩ := Bool.and_eq_true_iff.mp hb
    have z1 := eqv_nb a b a1 b1
    have z2 := eqvs_nb as bs a2 b2
    unfold D.eqv at z1
    simp only [D.toPDs, PyData.eqvAll, Bool.and_eq_true, z1, z2, List.cons.injEq]
end
theorem eq_nb {a b : D} (ha : a.nb = true) (hb : b.nb = true) (da : a.dep ≤ 64) (db : b.dep ≤ 64) : opEq a b = .ok (.bl (D.eqv a b)) := by
  unfold opEq
  rw [eqOk_nb ha da, eqOk_nb hb db]
  rfl
theorem ne_nb {a b : D} (ha : a.nb = true) (hb : b.nb = true) (da : a.dep ≤ 64) (db : b.dep ≤ 64) : opNe a b = .ok (.bl (!D.eqv a b)) := by
  unfold opNe
  rw [eqOk_nb ha da, eqOk_nb hb db]
  rfl
theorem nbs_ints : ∀ xs : List Int, D.nbs (xs.map D.int) = true
  | [] => rfl
  | x :: xs => by
    show (D.nb (.int x) && D.nbs (xs.map D.int)) = true
    rw [nbs_ints xs]; rfl
theorem deps_ints : ∀ xs : List Int, D.deps (xs.map D.int) = 0
  | [] => rfl
  | x :: xs => by
    show max (D.dep (.int x)) (D.deps (xs.map D.int)) = 0
    rw [deps_ints xs]; rfl
theorem map_int_inj {xs ys : List Int} : xs.map D.int = ys.map D.int ↔ xs = ys := by
  constructor
  · exact fun h => List.map_inj_right (fun a b q => by cases q; rfl) |>.mp h
  · rintro rfl; rfl
/-- == of int lists -/
theorem eq_ints {xs ys : List Int} : opEq (.lst (xs.map D.int)) (.lst (ys.map D.int)) = .ok (.bl (decide (xs = ys))) := by
  have hx : (D.lst (xs.map D.int)).nb = true := nbs_ints xs
  have hy : (D.lst (ys.map D.int)).nb = true := nbs_ints ys
  have dx : (D.lst (xs.map D.int)).dep = 1 := congrArg (· + 1) (deps_ints xs)
  have dy : (D.lst (ys.map D.int)).dep = 1 := congrArg (· + 1) (deps_ints ys)
  rw [eq_nb hx hy (by omega) (by omega)]
  have z := eqv_nb _ _ hx hy
  congr 2
  rw [Bool.eq_iff_iff, z, decide_eq_true_iff, D.lst.injEq, map_int_inj]
theorem ne_ints {xs ys : List Int} : opNe (.lst (xs.map D.int)) (.lst (ys.map D.int)) = .ok (.bl (!decide (xs = ys))) := by
  have hx : (D.lst (xs.map D.int)).nb = true := nbs_ints xs
  have hy : (D.lst (ys.map D.int)).nb = true := nbs_ints ys
  have dx : (D.lst (xs.map D.int)).dep = 1 := congrArg (· + 1) (deps_ints xs)
  have dy : (D.lst (ys.map D.int)).dep = 1 := congrArg (· + 1) (deps_ints ys)
  rw [ne_nb hx hy (by omega) (by omega)]
  have z := eqv_nb _ _ hx hy
  congr 3
  rw [Bool.eq_iff_iff, z, decide_eq_true_iff, D.lst.injEq, map_int_inj]
theorem eq_self {a : D} (ha : a.nb = true) (da : a.dep ≤ 64) : opEq a a = .ok (.bl true) := by
  rw [eq_nb ha ha da da, (eqv_nb a a ha ha).mpr rfl]
end VL
/-! VLNum: plain numbers. -/
namespace VL
open PySem
def cen (a k : Int) : Int := k / 2 - (k / 2 - a) % k
theorem div2 (k : Int) : divOk k 2 = true := div_ok (by decide) (Sz.lit (by decide +kernel))
theorem two2 : Sz 2 (2 : Int) := Sz.lit (by decide)
def digs (b : Int) : Nat → Int → List Int × Int
  | 0, v => ([], v)
  | n + 1, v => (cen v b :: (digs b n ((v - cen v b) / b)).1, (digs b n ((v - cen v b) / b)).2)
def hor (b : Int) : Int → List Int → Int
  | n, [] => n
  | n, d :: ds => hor b (n * b + d) ds
def fd (b r : Int) : List Int → Int
  | [] => r
  | d :: ds => fd b r ds * b + d
theorem hor_app (b : Int) : ∀ (n : Int) (xs ys : List Int), hor b n (xs ++ ys) = hor b (hor b n xs) ys
  | n, [], ys => rfl
  | n, x :: xs, ys => by simp [hor, hor_app b]
theorem hor_rev (b r : Int) : ∀ ds : List Int, hor b r ds.reverse = fd b r ds
  | [] => rfl
  | d :: ds => by simp [hor_app, hor_rev b r ds, fd, hor]
def tot (b : Int) : Nat → Int
  | 0 => 0
  | n + 1 => tot b n * b + 1
theorem tot_sz {b : Int} (hz : Sz 17 b) : ∀ n, Sz (18 * n + 1) (tot b n)
  | 0 => Sz.lit (n := 1) (i := 0) (by decide)
  | n + 1 => (((tot_sz hz n).mul hz).add (Sz.mono (Sz.lit (n := 1) (by decide)) (by omega))).mono (by omega)
theorem lit_div {i j : Int} (h : 0 < j) (k : decide (j.natAbs < 2 ^ 9000) = true) : divOk i j = true := div_ok h (Sz.lit k)
def absI (x : Int) : Int := if x < 0 then -x else x
theorem cen_facts {a k : Int} (h : 1 ≤ k) : -k < 2 * cen a k ∧ 2 * cen a k ≤ k ∧ -((k - 1) / 2) ≤ cen a k ∧ cen a k ≤ k / 2 := by
  unfold cen
  have e1 := Int.emod_nonneg (k / 2 - a) (show k ≠ 0 by omega)
  have e2 := Int.emod_lt_of_pos (k / 2 - a) (show 0 < k by omega)
  refine ⟨?_, ?_, ?_, ?_⟩ <;> omega
theorem cen_dvd {a k : Int} (h : 1 ≤ k) : (a - cen a k) % k = 0 ∧ (a - cen a k) / k * k = a - cen a k := by
  have e : a - cen a k = k * (-((k / 2 - a) / k)) := by
    unfold cen
    have e3 := Int.mul_ediv_add_emod (k / 2 - a) k
    rw [Int.mul_neg]
    omega
  constructor
  · rw [e, Int.mul_emod_right]
  · rw [Int.ediv_mul_cancel]
    rw [e]
    exact Int.dvd_mul_right _ _
theorem digs_len (b : Int) : ∀ n v, (digs b n v).1.length = n
  | 0, v => rfl
  | n + 1, v => by simp [digs, digs_len b n]
theorem digs_dig {b : Int} (hb : 1 ≤ b) : ∀ n v, ∀ d ∈ (digs b n v).1, -b < 2 * d ∧ 2 * d ≤ b ∧ -((b - 1) / 2) ≤ d ∧ d ≤ b / 2
  | 0, v, d, h => by cases h
  | n + 1, v, d, h => by
    simp only [digs, List.mem_cons] at h
    rcases h with rfl | h
    · exact cen_facts hb
    · exact digs_dig hb n _ d h
theorem digs_val {b : Int} (hb : 1 ≤ b) : ∀ n v, fd b (digs b n v).2 (digs b n v).1 = v
  | 0, v => rfl
  | n + 1, v => by
    simp only [digs, fd]
    rw [digs_val hb n, (cen_dvd hb).2]
    omega
theorem digs_sz {b : Int} (hb : 1 ≤ b) (hz : Sz 17 b) : ∀ n v s, 18 ≤ s → Sz s v → Sz (s + n) (digs b n v).2
  | 0, v, s, _, h => h
  | n + 1, v, s, hs, h => by
    have c := cen_facts (a := v) hb
    have zc : Sz s (cen v b) := (hz.mono (by omega : 17 ≤ s)).le (by omega)
    have z := digs_sz hb hz n ((v - cen v b) / b) (s + 1) (by omega) ((h.sub zc).div (by omega))
    simp only [digs]
    exact z.mono (by omega)
theorem fd_split (b r : Int) : ∀ ds : List Int, fd b r ds = fd b 0 ds + r * b ^ ds.length
  | [] => by simp [fd]
  | d :: ds => by
    simp only [fd, List.length_cons, Int.pow_succ]
    rw [fd_split b r ds, Int.add_mul, Int.mul_assoc]
    omega
theorem fd_rg {b lo hi : Int} (hb : 0 ≤ b) : ∀ ds : List Int, (∀ d ∈ ds, lo ≤ d ∧ d ≤ hi) → lo * tot b ds.length ≤ fd b 0 ds ∧ fd b 0 ds ≤ hi * tot b ds.length
  | [], _ => by simp [fd, tot]
  | d :: ds, h => by
    have z := fd_rg hb ds fun x hx => h x (List.mem_cons_of_mem _ hx)
    have w := h d (List.mem_cons_self ..)
    simp only [fd, List.length_cons, tot, Int.mul_add, Int.mul_one, ← Int.mul_assoc]
    have z1 := Int.mul_le_mul_of_nonneg_right z.1 hb
    have z2 := Int.mul_le_mul_of_nonneg_right z.2 hb
    omega
theorem tot_pow (b : Int) : ∀ n, (b - 1) * tot b n + 1 = b ^ n
  | 0 => by simp [tot]
  | n + 1 => by
    have z := tot_pow b n
    rw [Int.pow_succ, ← z]
    simp only [tot, Int.mul_add, Int.add_mul, Int.mul_one, Int.one_mul, Int.mul_assoc]
    omega
theorem tot_nn {b : Int} (hb : 0 ≤ b) : ∀ n, 0 ≤ tot b n
  | 0 => Int.le_refl _
  | n + 1 => by
    have := Int.mul_nonneg (tot_nn hb n) hb
    simp only [tot]; omega
theorem rest_zero {b v : Int} {n : Nat} (hb : 1 ≤ b) : (digs b n v).2 = 0 ↔ -((b - 1) / 2) * tot b n ≤ v ∧ v ≤ b / 2 * tot b n := by
  have e := digs_val hb n v
  rw [fd_split, digs_len] at e
  have g := fd_rg (b := b) (lo := -((b - 1) / 2)) (hi := b / 2) (by omega) (digs b n v).1 fun d hd => (digs_dig hb n v d hd).2.2
  rw [digs_len] at g
  have p := tot_pow b n
  have t := tot_nn (b := b) (by omega) n
  generalize (digs b n v).2 = r at e ⊢
  generalize fd b 0 (digs b n v).1 = x at e g
  generalize hT : tot b n = T at g p t ⊢
  have hs : b / 2 + (b - 1) / 2 = b - 1 := by omega
  have q : b / 2 * T - (-((b - 1) / 2) * T) = (b - 1) * T := by rw [← Int.sub_mul]; congr 1; omega
  rw [← p] at e
  constructor
  · intro h
    rw [h, Int.zero_mul] at e
    omega
  · intro ⟨h1, h2⟩
    have t2 : 0 ≤ (b - 1) * T := Int.mul_nonneg (by omega) t
    generalize (b - 1) * T = W at e q t2
    by_cases h0 : r = 0
    · exact h0
    · exfalso
      by_cases hp : 0 < r
      · have : 1 * (W + 1) ≤ r * (W + 1) := Int.mul_le_mul_of_nonneg_right (by omega) (by omega)
        omega
      · have : r * (W + 1) ≤ -1 * (W + 1) := Int.mul_le_mul_of_nonneg_right (by omega) (by omega)
        omega
theorem tot_big {b : Int} (hb : 3 ≤ b) : ∀ n : Nat, 2 ^ n ≤ tot b n + 1
  | 0 => by simp [tot]
  | n + 1 => by
    have z := tot_big hb n
    have t := tot_nn (b := b) (by omega) n
    have m : tot b n * 3 ≤ tot b n * b := Int.mul_le_mul_of_nonneg_left hb t
    rw [Int.pow_succ]
    simp only [tot]
    omega
def cell (ns : List Int) (k : Nat) : Int := (ns[k]?).getD 0
theorem cell_sz {ns : List Int} (hb : ∀ z ∈ ns, Builtin.Int.intBits z ≤ 1048576) (k : Nat) : Sz 1048576 (cell ns k) := by
  unfold cell
  cases e : ns[k]? with
  | none => exact Sz.mono (Sz.lit (n := 1) (i := 0) (by decide)) (by decide)
  | some z => exact Sz.ofbits (hb z (List.mem_of_getElem? e))
/-- H is twice the half window: the degree is 2^n, there are 2^t slots -/
theorem pow_split {n t : Nat} (ht : t < n) : (2 : Int) ^ n = 2 ^ (n - t - 1) * (2 * 2 ^ t) := by
  have e : n = (n - t - 1) + (t + 1) := by omega
  rw [e, Int.pow_add, Int.pow_succ, Int.mul_comm (2 ^ t) 2]
  congr 2
  omega
theorem half_eq {n t : Nat} (ht : t < n) : (2 : Int) ^ n / (2 * 2 ^ t) = 2 ^ (n - t - 1) := by
  rw [pow_split ht, Int.mul_ediv_cancel]
  have : (0 : Int) < 2 ^ t := Int.pow_pos (by decide)
  omega
theorem pow_sz {n : Nat} : Sz (n + 1) ((2 : Int) ^ n) := by
  unfold Sz
  rw [Int.natAbs_pow]
  exact Nat.pow_lt_pow_right (by decide) (by omega)
theorem pow_le {n t : Nat} (ht : t < n) : 2 * (2 : Int) ^ t ≤ 2 ^ n := by
  have p := pow_split ht
  have q : (0 : Int) < 2 ^ (n - t - 1) := Int.pow_pos (by decide)
  have r : (0 : Int) < 2 ^ t := Int.pow_pos (by decide)
  have z : 1 * (2 * (2 : Int) ^ t) ≤ 2 ^ (n - t - 1) * (2 * 2 ^ t) := Int.mul_le_mul_of_nonneg_right (by omega) (by omega)
  omega
theorem pow2_pos {t : Nat} : (0 : Int) < 2 ^ t := Int.pow_pos (by decide)
theorem cen_uniq {v m c k : Int} (h : 1 ≤ m) (h1 : -m < 2 * c) (h2 : 2 * c ≤ m) (hk : v - c = m * k) : cen v m = c := by
  have f := cen_facts (a := v) h
  have dv := cen_dvd (a := v) h
  have e : v - cen v m = m * ((v - cen v m) / m) := by rw [Int.mul_comm]; exact dv.2.symm
  generalize (v - cen v m) / m = j at e
  have e2 : cen v m - c = m * (k - j) := by rw [Int.mul_sub]; omega
  by_cases hkj : k - j = 0
  · rw [hkj, Int.mul_zero] at e2; omega
  · exfalso
    by_cases hp : 0 < k - j
    · have : m * 1 ≤ m * (k - j) := Int.mul_le_mul_of_nonneg_left (by omega) (by omega)
      omega
    · have : m * (k - j) ≤ m * (-1) := Int.mul_le_mul_of_nonneg_left (by omega) (by omega)
      omega
theorem cen_mod {v m : Int} (h : 1 ≤ m) : (if 2 * (v % m) > m then v % m - m else v % m) = cen v m := by
  have a1 := Int.emod_nonneg v (show m ≠ 0 by omega)
  have a2 := Int.emod_lt_of_pos v (show 0 < m by omega)
  have e3 := Int.mul_ediv_add_emod v m
  split
  · exact (cen_uniq h (by omega) (by omega) (k := v / m + 1) (by rw [Int.mul_add]; omega)).symm
  · exact (cen_uniq h (by omega) (by omega) (k := v / m) (by omega)).symm
theorem cen_shift {v w m k : Int} (h : 1 ≤ m) (e : v - w = m * k) : cen v m = cen w m := by
  have f := cen_facts (a := w) h
  have dv := cen_dvd (a := w) h
  refine cen_uniq h f.1 f.2.1 (k := k + (w - cen w m) / m) ?_
  rw [Int.mul_add, Int.mul_comm m ((w - cen w m) / m), dv.2]
  omega
theorem rangeD_succ {s : Int} {m : Nat} : rangeD s (m + 1) = .int s :: rangeD (s + 1) m := by
  unfold rangeD
  rw [List.range_succ_eq_map, List.map_cons, List.map_map, List.cons.injEq]
  refine ⟨by simp, List.map_congr_left fun k _ => ?_⟩
  show D.int (s + ((k + 1 : Nat) : Int)) = D.int (s + 1 + (k : Int))
  congr 1; omega
theorem rangeD_zero {s : Int} : rangeD s 0 = [] := rfl
/-- the window of a slot -/
theorem window_iff {n t : Nat} {p s : Int} (ht : t < n) (s0 : 0 ≤ s) (s1 : s < 2 * 2 ^ t) :
    (-(2 : Int) ^ (n - t - 1) ≤ cen (p - 2 * 2 ^ (n - t - 1) * s) (2 * 2 ^ n) ∧ cen (p - 2 * 2 ^ (n - t - 1) * s) (2 * 2 ^ n) < 2 ^ (n - t - 1)) ↔ s = (p + 2 ^ (n - t - 1)) % (2 * 2 ^ n) / (2 * 2 ^ (n - t - 1)) := by
  have ph : (0 : Int) < 2 ^ (n - t - 1) := pow2_pos
  have pt : (0 : Int) < 2 ^ t := pow2_pos
  have pn : (0 : Int) < 2 ^ n := pow2_pos
  have sp := pow_split ht
  have e0 : (2 : Int) * 2 ^ n = 2 * 2 ^ (n - t - 1) * (2 * 2 ^ t) := by rw [sp, Int.mul_assoc]
  generalize (2 : Int) ^ (n - t - 1) = g at *
  generalize hS : 2 * (2 : Int) ^ t = S at *
  generalize hM : 2 * (2 : Int) ^ n = M at *
  have f := cen_facts (a := p - 2 * g * s) (k := M) (by omega)
  have dv := (cen_dvd (a := p - 2 * g * s) (k := M) (by omega)).2
  have x0 := Int.emod_nonneg (p + g) (show M ≠ 0 by omega)
  have x1 := Int.emod_lt_of_pos (p + g) (show 0 < M by omega)
  have x2 := Int.mul_ediv_add_emod (p + g) M
  generalize (p + g) / M = j2 at x2
  generalize (p + g) % M = x at x0 x1 x2 ⊢
  constructor
  · intro ⟨h1, h2⟩
    generalize cen (p - 2 * g * s) M = c at f dv h1 h2
    generalize (p - 2 * g * s - c) / M = j at dv
    have ex : x = (c + g) + 2 * g * (s + S * (j - j2)) := by
      rw [Int.mul_add, ← Int.mul_assoc, ← e0, Int.mul_sub]
      rw [Int.mul_comm] at dv
      omega
    have u := (Int.ediv_emod_unique (a := x) (b := 2 * g) (r := c + g) (q := s + S * (j - j2)) (by omega)).mpr ⟨ex.symm, by omega, by omega⟩
    rw [u.1]
    have q0 : 0 ≤ x / (2 * g) := Int.ediv_nonneg x0 (by omega)
    have q1 : x / (2 * g) < S := by
      refine Int.ediv_lt_of_lt_mul (by omega) ?_
      rw [Int.mul_comm, ← e0]; exact x1
    rw [u.1] at q0 q1
    by_cases hj : j - j2 = 0
    · rw [hj, Int.mul_zero, Int.add_zero]
    · exfalso
      by_cases hp : 0 < j - j2
      · have : S * 1 ≤ S * (j - j2) := Int.mul_le_mul_of_nonneg_left (by omega) (by omega)
        omega
      · have : S * (j - j2) ≤ S * (-1) := Int.mul_le_mul_of_nonneg_left (by omega) (by omega)
        omega
  · intro hs
    have r0 := Int.emod_nonneg x (show 2 * g ≠ 0 by omega)
    have r1 := Int.emod_lt_of_pos x (show 0 < 2 * g by omega)
    have r2 := Int.mul_ediv_add_emod x (2 * g)
    rw [← hs] at r2
    have big : 2 * g * 2 ≤ M := by
      rw [e0]
      exact Int.mul_le_mul_of_nonneg_left (by omega) (by omega)
    have u : cen (p - 2 * g * s) M = x % (2 * g) - g := cen_uniq (by omega) (by omega) (by omega) (k := j2) (by omega)
    rw [u]
    omega
/-! lists of ints -/
theorem comp_ints {it : M (List D)} {t : Bd} {e : M D} {own : List Nat} {η : Env} {xs : List Int} (g : Int → Int) (h1 : it η = .ok (xs.map D.int)) (h : ∀ x ∈ xs, ∃ η1, t (.int x) (wipeE η own) = some η1 ∧ e η1 = .ok (.int (g x))) (hl : xs.length ≤ 100000) : dComp it t qYes e own η = .ok (.lst ((xs.map g).map D.int)) := by
  have z := dComp_map (it := it) (t := t) (e := e) (own := own) (η := η) (xs := xs.map D.int) (fun d => match d with | .int i => .int (g i) | d => d) h1 (fun x hx => by
    obtain ⟨i, hi, rfl⟩ := List.mem_map.mp hx
    exact h i hi) (le_line (by simpa using hl))
  rw [z, List.map_map, List.map_map]
  rfl
theorem compGo_filt {t : Bd} {q : M Bool} {e : M D} {η : Env} {p : D → Bool} {g : D → D} : ∀ (xs acc : List D), (∀ x ∈ xs, ∃ η1, t x η = some η1 ∧ q η1 = .ok (p x) ∧ (p x = true → e η1 = .ok (g x))) → acc.length + xs.length ≤ line → compGo t q e η xs acc = .ok (acc ++ (xs.filter p).map g)
  | [], acc, _, _ => by unfold compGo; simp
  | x :: xs, acc, h, hl => by
    obtain ⟨η1, e1, e2, e3⟩ := h x (List.mem_cons_self ..)
    have hr := fun y hy => h y (List.mem_cons_of_mem _ hy)
    unfold compGo
    rw [e1]
    simp only [e2]
    cases hp : p x with
    | true =>
      simp only [e3 hp]
      rw [if_pos (by simp at hl; omega), compGo_filt xs _ hr (by simp at hl ⊢; omega)]
      simp [hp]
    | false =>
      simp only []
      rw [compGo_filt xs _ hr (by simp at hl ⊢; omega)]
      simp [hp]
theorem comp_filt {it : M (List D)} {t : Bd} {q : M Bool} {e : M D} {own : List Nat} {η : Env} {xs : List Int} (p : Int → Bool) (g : Int → Int) (h1 : it η = .ok (xs.map D.int)) (h : ∀ x ∈ xs, ∃ η1, t (.int x) (wipeE η own) = some η1 ∧ q η1 = .ok (p x) ∧ (p x = true → e η1 = .ok (.int (g x)))) (hl : xs.length ≤ 100000) : dComp it t q e own η = .ok (.lst (((xs.filter p).map g).map D.int)) := by
  unfold dComp
  rw [h1, ev_bind, compGo_filt (p := fun d => match d with | .int i => p i | _ => false) (g := fun d => match d with | .int i => .int (g i) | d => d) (xs.map D.int) [] (fun x hx => by
    obtain ⟨i, hi, rfl⟩ := List.mem_map.mp hx
    exact h i hi) (by simp; exact le_line hl)]
  rw [List.filter_map, List.map_map, List.map_map]
  rfl
theorem ints_of : ∀ xs : List Int, ints? (xs.map D.int) = some xs
  | [] => rfl
  | x :: xs => by
    show (ints? (xs.map D.int)).map (x :: ·) = _
    rw [ints_of xs]; rfl
theorem sum_ints (xs : List Int) : fSum [.lst (xs.map D.int)] = .ok (.int xs.sum) := by
  show (match ints? (xs.map D.int) with | some ns => Res.ok (D.int ns.sum) | _ => .stuck) = _
  rw [ints_of]
theorem max_ints (x : Int) (xs : List Int) : fMax [.lst ((x :: xs).map D.int)] = .ok (.int (maxL (x :: xs))) := by
  show (match ints? ((x :: xs).map D.int) with | some (a :: r) => Res.ok (D.int (maxL (a :: r))) | _ => .stuck) = _
  rw [ints_of]
theorem ints_get {ts : List Int} {k : Int} (h0 : 0 ≤ k) (h1 : k < (ts.length : Nat)) : opIx (.lst (ts.map D.int)) (.int k) = .ok (.int (ts.getD k.toNat 0)) := by
  have e : k = ((k.toNat : Nat) : Int) := (Int.toNat_of_nonneg h0).symm
  have l : k.toNat < ts.length := by omega
  have g : (ts.map D.int)[k.toNat]? = some (.int (ts.getD k.toNat 0)) := by
    rw [List.getElem?_map, List.getElem?_eq_getElem l, List.getD_eq_getElem?_getD, List.getElem?_eq_getElem l]; rfl
  have z := ev_ixN g
  rw [← e] at z
  exact z
theorem ints_at {ts : List Int} {k : Nat} {x : Int} (h : ts[k]? = some x) : opIx (.lst (ts.map D.int)) (.int (k : Int)) = .ok (.int x) := ev_ixN (by rw [List.getElem?_map, h]; rfl)
/-! bits -/
def rnd (v d : Int) : Int := (2 * v + d) / (2 * d)
def sel : Int → List Int → Int
  | _, [] => 0
  | n, x :: xs => (if n % 2 = 1 then x else 0) + sel (n / 2) xs
def msk (p : Int → Bool) : List Int → Int
  | [] => 0
  | x :: xs => (if p x then 1 else 0) + 2 * msk p xs
def sumP (p : Int → Bool) (xs : List Int) : Int := (xs.filter p).sum
theorem sel_msk (p : Int → Bool) : ∀ xs : List Int, sel (msk p xs) xs = sumP p xs
  | [] => rfl
  | x :: xs => by
    have ih := sel_msk p xs
    unfold sumP at *
    cases hp : p x with
    | true =>
      simp only [sel, msk, hp, if_true, List.filter_cons, List.sum_cons]
      rw [if_pos (by omega), show (1 + 2 * msk p xs) / 2 = msk p xs by omega, ih]
    | false =>
      simp only [sel, msk, hp, List.filter_cons, Bool.false_eq_true, if_false]
      rw [if_neg (by omega), show (0 + 2 * msk p xs) / 2 = msk p xs by omega, ih, Int.zero_add]
theorem msk_rg (p : Int → Bool) : ∀ xs : List Int, 0 ≤ msk p xs ∧ msk p xs < 2 ^ xs.length
  | [] => ⟨Int.le_refl _, by simp [msk]⟩
  | x :: xs => by
    have ih := msk_rg p xs
    simp only [msk, List.length_cons, Int.pow_succ]
    split <;> omega
def pos (x : Int) : Bool := decide (0 < x)
def neg (x : Int) : Bool := decide (x < 0)
theorem sel_rg : ∀ (n : Int) (xs : List Int), sumP neg xs ≤ sel n xs ∧ sel n xs ≤ sumP pos xs
  | _, [] => ⟨Int.le_refl _, Int.le_refl _⟩
  | n, x :: xs => by
    have ih := sel_rg (n / 2) xs
    unfold sumP at *
    simp only [sel, List.filter_cons]
    by_cases h1 : 0 < x
    · rw [show pos x = true from decide_eq_true h1, show neg x = false from decide_eq_false (by omega)]
      simp only [Bool.false_eq_true, if_true, if_false, List.sum_cons]
      split <;> omega
    · by_cases h2 : x < 0
      · rw [show pos x = false from decide_eq_false h1, show neg x = true from decide_eq_true h2]
        simp only [Bool.false_eq_true, if_true, if_false, List.sum_cons]
        split <;> omega
      · rw [show pos x = false from decide_eq_false h1, show neg x = false from decide_eq_false h2]
        simp only [Bool.false_eq_true, if_false]
        split <;> omega
theorem sel_zero : ∀ xs : List Int, sel 0 xs = 0
  | [] => rfl
  | x :: xs => by simp [sel, sel_zero xs]
theorem sel_neg (f : Int → Int) : ∀ (n : Int) (xs : List Int), sel n (xs.map f) = sel n (xs.map f)
  | _, _ => rfl
theorem div_pow_succ (n : Int) (k : Nat) : n / 2 ^ (k + 1) = n / 2 ^ k / 2 := by
  rw [Int.pow_succ, Int.ediv_ediv_of_nonneg (Int.le_of_lt (Int.pow_pos (by decide)))]
theorem bit_one {z : Int} (h : 0 ≤ z) : Builtin.bitAnd z 1 = z % 2 := by
  unfold Builtin.bitAnd
  have h1 : decide (0 ≤ z) = true := decide_eq_true h
  rw [h1]
  show (((z.toNat &&& (1 : Int).toNat : Nat)) : Int) = z % 2
  rw [show (1 : Int).toNat = 1 from rfl, Nat.and_one_is_mod]
  omega
theorem bit_low {z : Int} (h : 0 ≤ z) (k : Nat) : Builtin.bitAnd z (2 ^ k - 1) = z % 2 ^ k := by
  unfold Builtin.bitAnd
  have p := pow2_pos (t := k)
  have h1 : decide (0 ≤ z) = true := decide_eq_true h
  have h2 : decide (0 ≤ (2 : Int) ^ k - 1) = true := decide_eq_true (by omega)
  rw [h1, h2]
  show (((z.toNat &&& ((2 : Int) ^ k - 1).toNat : Nat)) : Int) = z % 2 ^ k
  have e : ((2 : Int) ^ k - 1).toNat = 2 ^ k - 1 := by
    have : ((2 ^ k : Nat) : Int) = (2 : Int) ^ k := by rw [Int.natCast_pow]; rfl
    omega
  rw [e, Nat.and_two_pow_sub_one_eq_mod, Int.natCast_emod, Int.toNat_of_nonneg h, Int.natCast_pow]; rfl
/-- a bit, as the programs look at it -/
theorem ev_bit {n : Int} {k : Nat} (h : 0 ≤ n) : (opShr (.int n) (.int (k : Int))) = .ok (.int (n / 2 ^ k)) := by
  rw [ev_shr (by omega), Int.toNat_natCast]
theorem div_nn {n : Int} (h : 0 ≤ n) (k : Nat) : 0 ≤ n / 2 ^ k := Int.ediv_nonneg h (Int.le_of_lt pow2_pos)
end VL
/-! VTCore: typed values; what typed text does; that the tree functions do the same. -/
namespace VT
open PySem hiding Env
open VL
class Enc (α : Type) where
  enc : α → D
open Enc
instance eInt : Enc Int := ⟨D.int⟩
instance eBool : Enc Bool := ⟨D.bl⟩
instance eUnit : Enc Unit := ⟨fun _ => .non⟩
instance eD : Enc D := ⟨fun d => d⟩
instance eStr : Enc Str := ⟨D.str⟩
section
variable {α β γ δ ε : Type} [Enc α] [Enc β] [Enc γ] [Enc δ] [Enc ε]
instance eList : Enc (List α) := ⟨fun xs => .lst (xs.map enc)⟩
instance eProd : Enc (α × β) := ⟨fun p => .tup [enc p.1, enc p.2]⟩
instance eOpt : Enc (Option α) := ⟨fun o => match o with | none => .non | some a => enc a⟩
end
/-- a tuple of any length -/
structure Tup (α : Type) where
  items : List α
structure T3 (α β γ : Type) where
  a : α
  b : β
  c : γ
structure T4 (α β γ δ : Type) where
  a : α
  b : β
  c : γ
  d : δ
structure T5 (α β γ δ ε : Type) where
  a : α
  b : β
  c : γ
  d : δ
  e : ε
structure T1 (α : Type) where
  a : α
section
variable {α β γ δ ε : Type} [Enc α] [Enc β] [Enc γ] [Enc δ] [Enc ε]
instance eTup : Enc (Tup α) := ⟨fun t => .tup (t.items.map enc)⟩
instance eT1 : Enc (T1 α) := ⟨fun p => .tup [enc p.a]⟩
instance eT3 : Enc (T3 α β γ) := ⟨fun p => .tup [enc p.a, enc p.b, enc p.c]⟩
instance eT4 : Enc (T4 α β γ δ) := ⟨fun p => .tup [enc p.a, enc p.b, enc p.c, enc p.d]⟩
instance eT5 : Enc (T5 α β γ δ ε) := ⟨fun p => .tup [enc p.a, enc p.b, enc p.c, enc p.d, enc p.e]⟩
end
/-! ### the one judgement -/
def Sm {α δ : Type} (e : α → δ) (d : Res δ) (r : Res α) : Prop := match r with
  | .ok x => d = .ok (e x)
  | .exc er => d = .exc er
  | .stuck => True
section
variable {α β δ ε : Type} {e : α → δ} {e' : β → ε} {d : Res δ} {r : Res α}
theorem bP {x : α} {k : δ → Res ε} {t : Res β} (h : Sm e d (.ok x)) (g : Sm e' (k (e x)) t) : Sm e' (d.bind k) t := by
  have h' : d = .ok (e x) := h
  subst h'
  exact g
theorem bE {k : δ → Res ε} {t : α → Res β} (h : Sm e d r) (g : ∀ x, Sm e' (k (e x)) (t x)) : Sm e' (d.bind k) (r.bind t) := by
  cases r with
  | ok x => exact bP h (g x)
  | exc er =>
    have h' : d = .exc er := h
    subst h'
    exact rfl
  | stuck => exact trivial
theorem Sm.self {r : Res D} : Sm (enc : D → D) r r := by cases r <;> first | rfl | trivial
theorem Sm.cases {P : Prop} {x : α} (h : Sm e d (.ok x)) : d = .ok (e x) := h
end
/-! ### environments by slots -/
abbrev En := List (Nat × D)
def lk : En → Nat → Option D
  | [], _ => none
  | (j, d) :: L, i => if Nat.beq j i = true then some d else lk L i
def Has (η : Env) (L : En) : Prop := ∀ i d, lk L i = some d → η[i]? = some (some d)
theorem lk_cons {j i : Nat} {d : D} {L : En} : lk ((j, d) :: L) i = if Nat.beq j i = true then some d else lk L i := rfl
theorem Has.var {η : Env} {L : En} (h : Has η L) (i : Nat) {d : D} (e : lk L i = some d) : dVar i η = .ok d := by
  unfold dVar
  rw [h i d e]
theorem Has.set {η : Env} {L : En} (h : Has η L) (i : Nat) {d : D} (hi : i < η.length) : Has (η.set i (some d)) ((i, d) :: L) := by
  intro j c e
  rw [lk_cons] at e
  by_cases hj : Nat.beq i j = true
  · rw [if_pos hj] at e
    have hij : i = j := Nat.eq_of_beq_eq_true hj
    cases e
    subst hij
    simp [hi]
  · rw [if_neg hj] at e
    have hij : i ≠ j := fun q => hj (by subst q; exact Nat.beq_refl i)
    rw [List.getElem?_set_ne hij]
    exact h j c e
def kick (L : En) (own : List Nat) : En := L.filter fun p => !(own.contains p.1)
theorem lk_filter {p : Nat → Bool} : ∀ {L : En} {i : Nat} {d : D}, lk (L.filter fun q => p q.1) i = some d → p i = true ∧ lk L i = some d
  | [], i, d, h => by cases h
  | (j, c) :: L, i, d, h => by
    rw [List.filter_cons] at h
    by_cases hp : p j = true
    · rw [if_pos hp, lk_cons] at h
      rw [lk_cons]
      by_cases hj : Nat.beq j i = true
      · rw [if_pos hj] at h ⊢
        have : j = i := Nat.eq_of_beq_eq_true hj
        exact ⟨this ▸ hp, h⟩
      · rw [if_neg hj] at h ⊢
        exact lk_filter h
    · rw [if_neg hp] at h
      obtain ⟨h1, h2⟩ := lk_filter h
      refine ⟨h1, ?_⟩
      rw [lk_cons]
      by_cases hj : Nat.beq j i = true
      · have : j = i := Nat.eq_of_beq_eq_true hj
        subst this
        exact absurd h1 hp
      · rw [if_neg hj]; exact h2
theorem Has.none {η : Env} {L : En} (h : Has η L) (i : Nat) (n : lk L i = none) : Has (η.set i none) L := by
  intro j c e
  by_cases hij : i = j
  · subst hij; rw [n] at e; cases e
  · rw [List.getElem?_set_ne hij]
    exact h j c e
theorem wipe_len : ∀ (own : List Nat) (η : Env), (wipeE η own).length = η.length
  | [], _ => rfl
  | v :: vs, η => by
    show ((wipeE η vs).set v none).length = _
    rw [List.length_set, wipe_len vs]
theorem wipe_get : ∀ (own : List Nat) (η : Env) (i : Nat), own.contains i = false → (wipeE η own)[i]? = η[i]?
  | [], _, _, _ => rfl
  | v :: vs, η, i, h => by
    rw [List.contains_cons, Bool.or_eq_false_iff] at h
    show ((wipeE η vs).set v none)[i]? = _
    have hv : v ≠ i := fun q => by simp [q] at h
    rw [List.getElem?_set_ne hv]
    exact wipe_get vs η i h.2
theorem Has.wipe {η : Env} {L : En} (h : Has η L) (own : List Nat) : Has (wipeE η own) (kick L own) := by
  intro i d e
  obtain ⟨h1, h2⟩ := lk_filter (p := fun j => !(own.contains j)) e
  rw [wipe_get own η i (by simpa using h1)]
  exact h i d h2
/-- L' is a part of L -/
def Sub (L L' : En) : Prop := ∀ η, Has η L → Has η L'
def subB (L : En) : En → Prop
  | [] => True
  | (i, d) :: L' => lk L i = some d ∧ subB L L'
theorem subB_lk {L : En} : ∀ {L' : En} {i : Nat} {d : D}, subB L L' → lk L' i = some d → lk L i = some d
  | [], i, d, _, h => by cases h
  | (j, c) :: L', i, d, h, e => by
    rw [lk_cons] at e
    by_cases hj : Nat.beq j i = true
    · rw [if_pos hj] at e
      have : j = i := Nat.eq_of_beq_eq_true hj
      cases e
      exact this ▸ h.1
    · rw [if_neg hj] at e
      exact subB_lk h.2 e
theorem Sub.of {L L' : En} (h : subB L L') : Sub L L' := fun η hη i d e => hη i d (subB_lk h e)
theorem Sub.nil {L : En} : Sub L [] := fun η _ i d e => by cases e
theorem Sub.refl {L : En} : Sub L L := fun η h => h
def idx : Nat → List D → En
  | _, [] => []
  | k, d :: ds => (k, d) :: idx (k + 1) ds
theorem idx_lk : ∀ {ds : List D} {k i : Nat} {d : D}, lk (idx k ds) i = some d → k ≤ i ∧ ds[i - k]? = some d
  | [], k, i, d, h => by cases h
  | c :: ds, k, i, d, h => by
    have h' : (if Nat.beq k i = true then some c else lk (idx (k + 1) ds) i) = some d := h
    by_cases hj : Nat.beq k i = true
    · rw [if_pos hj] at h'
      have : k = i := Nat.eq_of_beq_eq_true hj
      subst this
      cases h'
      simp
    · rw [if_neg hj] at h'
      obtain ⟨h1, h2⟩ := idx_lk h'
      refine ⟨by omega, ?_⟩
      rw [show i - k = (i - (k + 1)) + 1 by omega]
      exact h2
theorem Has.init {ds : List D} {r : Env} : Has (ds.map some ++ r) (idx 0 ds) := fun i d h => by
  obtain ⟨_, h2⟩ := idx_lk h
  rw [Nat.sub_zero] at h2
  have hi := (List.getElem?_eq_some_iff.mp h2).1
  rw [List.getElem?_append_left (by simpa using hi), List.getElem?_map, h2]
  rfl
/-! ### typed statements -/
inductive TF (β σ ρ : Type) where
  | nx (s : σ) | rt (r : ρ) | bk (b : β) | ct (b : β) | ex (e : Er) | stuck
section
variable {α β σ τ ρ : Type}
def TF.bind (t : TF β σ ρ) (k : σ → TF β τ ρ) : TF β τ ρ := match t with
  | .nx s => k s
  | .rt r => .rt r
  | .bk b => .bk b
  | .ct b => .ct b
  | .ex e => .ex e
  | .stuck => .stuck
def onE (r : Res α) (k : α → TF β σ ρ) : TF β σ ρ := match r with
  | .ok a => k a
  | .exc e => .ex e
  | .stuck => .stuck
def tFor : List α → σ → (α → σ → TF σ σ ρ) → TF β σ ρ
  | [], s, _ => .nx s
  | x :: xs, s, f => match f x s with
    | .nx s' => tFor xs s' f
    | .ct s' => tFor xs s' f
    | .bk s' => .nx s'
    | .rt r => .rt r
    | .ex e => .ex e
    | .stuck => .stuck
def tWhileN (q : σ → Res Bool) (f : σ → TF σ σ ρ) : Nat → σ → TF β σ ρ
  | 0, _ => .stuck
  | n + 1, s => onE (q s) fun c => if c then (match f s with
    | .nx s' => tWhileN q f n s'
    | .ct s' => tWhileN q f n s'
    | .bk s' => .nx s'
    | .rt r => .rt r
    | .ex e => .ex e
    | .stuck => .stuck) else .nx s
open Classical in
noncomputable def tWhile (q : σ → Res Bool) (s : σ) (f : σ → TF σ σ ρ) : TF β σ ρ := if h : ∃ n, tWhileN (β := β) q f n s ≠ .stuck then tWhileN q f (Classical.choose h) s else .stuck
/-- try: t except c: h -/
def tTry (t : TF β σ ρ) (c : Er) (h : Er → TF β σ ρ) : TF β σ ρ := match t with
  | .ex e => if e.own then (if e.sub c then (match h e with | .ex _ => .stuck | r => r) else .ex e) else .stuck
  | r => r
def tRun (t : TF Unit Unit ρ) : Res ρ := match t with
  | .rt r => .ok r
  | .ex e => .exc e
  | _ => .stuck
def tRunF (r0 : ρ) (t : TF Unit Unit ρ) : Res ρ := match t with
  | .rt r => .ok r
  | .nx _ => .ok r0
  | .ex e => .exc e
  | _ => .stuck
end
/-! ### statements: the judgement -/
section
variable {α β σ τ ρ : Type} [Enc ρ]
def Post (N : Nat) (X : En) (Lb : β → En) (Ls : σ → En) (fl : Fl) : TF β σ ρ → Prop
  | .nx s => ∃ η, fl = .nx η ∧ η.length = N ∧ Has η (Ls s)
  | .rt r => fl = .rt (enc r)
  | .bk b => ∃ η, fl = .bk η ∧ η.length = N ∧ Has η (Lb b)
  | .ct b => ∃ η, fl = .ct η ∧ η.length = N ∧ Has η (Lb b)
  | .ex e => ∃ η, fl = .ex e η ∧ η.length = N ∧ Has η X
  | .stuck => True
def runK : List (Env → Fl) → Env → Fl
  | [], η => .nx η
  | m :: ms, η => match m η with
    | .nx η' => runK ms η'
    | r => r
def SimK (N : Nat) (X : En) (Lb : β → En) (Ls : σ → En) (ms : List (Env → Fl)) (L : En) (t : TF β σ ρ) : Prop := ∀ η, η.length = N → Has η L → Post N X Lb Ls (runK ms η) t
/-- a target: it binds d -/
def SimT (N : Nat) (b : Bd) (d : D) (L L1 : En) : Prop := ∀ η, η.length = N → Has η L → ∃ η1, b d η = some η1 ∧ η1.length = N ∧ Has η1 L1
variable {N : Nat} {X L L1 : En} {Lb : β → En} {Ls : σ → En} {m m1 m2 : Env → Fl} {ms : List (Env → Fl)}
theorem k_end {s : σ} (h : Sub L (Ls s)) : SimK N X Lb Ls [] L (.nx s : TF β σ ρ) := fun η hl hη => ⟨η, rfl, hl, h η hη⟩
theorem k_seq {t : TF β σ ρ} (h : SimK N X Lb Ls (m1 :: m2 :: ms) L t) : SimK N X Lb Ls (sSeq m1 m2 :: ms) L t := fun η hl hη => by
  have z := h η hl hη
  have e : runK (sSeq m1 m2 :: ms) η = runK (m1 :: m2 :: ms) η := by
    show (match sSeq m1 m2 η with | .nx η' => runK ms η' | r => r) = (match m1 η with | .nx η' => runK (m2 :: ms) η' | r => r)
    unfold sSeq
    cases m1 η <;> rfl
  rw [e]; exact z
theorem k_next {t : TF β σ ρ} (h : SimK N X Lb Ls ms L t) : SimK N X Lb Ls (sNext :: ms) L t := fun η hl hη => h η hl hη
theorem onE_post {fl : Fl} {d : Res D} {e : α → D} {r : Res α} {η : Env} {k : D → Fl} {kt : α → TF β σ ρ} (h : Sm e d r) (hl : η.length = N) (hX : Has η X) (g : ∀ x, Post N X Lb Ls (match k (e x) with | .nx η' => runK ms η' | r => r) (kt x)) : Post N X Lb Ls (match onRes d η k with | .nx η' => runK ms η' | r => r) (onE r kt) := by
  cases r with
  | ok x =>
    have h' : d = .ok (e x) := h
    subst h'
    exact g x
  | exc er =>
    have h' : d = .exc er := h
    subst h'
    exact ⟨η, rfl, hl, hX⟩
  | stuck => exact trivial
theorem onB_post {δ : Type} {d : Res δ} {e : α → δ} {r : Res α} {η : Env} {k : δ → Fl} {kt : α → TF β σ ρ} (h : Sm e d r) (hl : η.length = N) (hX : Has η X) (g : ∀ x, Post N X Lb Ls (match k (e x) with | .nx η' => runK ms η' | r => r) (kt x)) : Post N X Lb Ls (match onRes d η k with | .nx η' => runK ms η' | r => r) (onE r kt) := by
  cases r with
  | ok x =>
    have h' : d = .ok (e x) := h
    subst h'
    exact g x
  | exc er =>
    have h' : d = .exc er := h
    subst h'
    exact ⟨η, rfl, hl, hX⟩
  | stuck => exact trivial
variable [Enc α] {a b : M D} {i j : Nat} {q : M Bool}
theorem t_name (i : Nat) {d : D} (hi : i < N) : SimT N (bName i) d L ((i, d) :: L) := fun η hl hη => ⟨η.set i (some d), if_pos (by omega), by rw [List.length_set]; exact hl, hη.set i (by omega)⟩
def SimTs (N : Nat) (b : List D → Env → Option Env) (ds : List D) (L L1 : En) : Prop := ∀ η, η.length = N → Has η L → ∃ η1, b ds η = some η1 ∧ η1.length = N ∧ Has η1 L1
theorem ts_nil : SimTs N bNil [] L L := fun η hl hη => ⟨η, rfl, hl, hη⟩
theorem ts_cons {b : Bd} {r : List D → Env → Option Env} {d : D} {ds : List D} {L2 : En} (h1 : SimT N b d L L1) (h2 : SimTs N r ds L1 L2) : SimTs N (bCons b r) (d :: ds) L L2 := fun η hl hη => by
  obtain ⟨η1, e1, l1, a1⟩ := h1 η hl hη
  obtain ⟨η2, e2, l2, a2⟩ := h2 η1 l1 a1
  refine ⟨η2, ?_, l2, a2⟩
  show (b d η).bind (r ds) = some η2
  rw [e1]; exact e2
theorem t_tup {r : List D → Env → Option Env} {ds : List D} (h : SimTs N r ds L L1) : SimT N (bTup r) (.tup ds) L L1 := h
theorem t_lst {r : List D → Env → Option Env} {ds : List D} (h : SimTs N r ds L L1) : SimT N (bTup r) (.lst ds) L L1 := h
theorem k_asgP {x : α} {t : TF β σ ρ} (hi : i < N) (ha : ∀ η, η.length = N → Has η L → Sm enc (a η) (.ok x)) (h : SimK N X Lb Ls ms ((i, enc x) :: L) t) : SimK N X Lb Ls (sAsg a (bName i) :: ms) L t := fun η hl hη => by
  have e : a η = .ok (enc x) := ha η hl hη
  have z := h (η.set i (some (enc x))) (by rw [List.length_set]; exact hl) (hη.set i (by omega))
  have e2 : runK (sAsg a (bName i) :: ms) η = runK ms (η.set i (some (enc x))) := by
    show (match sAsg a (bName i) η with | .nx η' => runK ms η' | r => r) = _
    have e3 : sAsg a (bName i) η = .nx (η.set i (some (enc x))) := by
      unfold sAsg
      rw [e]
      show (match bName i (enc x) η with | some η' => Fl.nx η' | none => .stuck) = _
      unfold bName
      rw [if_pos (by omega)]
    rw [e3]
  rw [e2]; exact z
theorem k_asgE {r : Res α} {k : α → TF β σ ρ} (hi : i < N) (hX : Sub L X) (ha : ∀ η, η.length = N → Has η L → Sm enc (a η) r) (h : ∀ x, SimK N X Lb Ls ms ((i, enc x) :: L) (k x)) : SimK N X Lb Ls (sAsg a (bName i) :: ms) L (onE r k) := fun η hl hη => by
  show Post N X Lb Ls (match onRes (a η) η (fun d => match bName i d η with | some η' => .nx η' | none => .stuck) with | .nx η' => runK ms η' | r => r) (onE r k)
  refine onB_post (ha η hl hη) hl (hX η hη) fun x => ?_
  have e3 : (match bName i (enc x) η with | some η' => Fl.nx η' | none => .stuck) = .nx (η.set i (some (enc x))) := by
    unfold bName
    rw [if_pos (by omega)]
  rw [e3]
  exact h x _ (by rw [List.length_set]; exact hl) (hη.set i (by omega))
theorem k_asgTP {x : α} {bd : Bd} {t : TF β σ ρ} (ha : ∀ η, η.length = N → Has η L → Sm enc (a η) (.ok x)) (hb : SimT N bd (enc x) L L1) (h : SimK N X Lb Ls ms L1 t) : SimK N X Lb Ls (sAsg a bd :: ms) L t := fun η hl hη => by
  have e : a η = .ok (enc x) := ha η hl hη
  obtain ⟨η1, e1, l1, a1⟩ := hb η hl hη
  have z := h η1 l1 a1
  have e2 : runK (sAsg a bd :: ms) η = runK ms η1 := by
    show (match sAsg a bd η with | .nx η' => runK ms η' | r => r) = _
    have e3 : sAsg a bd η = .nx η1 := by
      unfold sAsg
      rw [e]
      show (match bd (enc x) η with | some η' => Fl.nx η' | none => .stuck) = _
      rw [e1]
    rw [e3]
  rw [e2]; exact z
theorem k_asgTE {α : Type} {e : α → D} {r : Res α} {bd : Bd} {L1 : α → En} {k : α → TF β σ ρ} (hX : Sub L X) (ha : ∀ η, η.length = N → Has η L → Sm e (a η) r) (hb : ∀ x, SimT N bd (e x) L (L1 x)) (h : ∀ x, SimK N X Lb Ls ms (L1 x) (k x)) : SimK N X Lb Ls (sAsg a bd :: ms) L (onE r k) := fun η hl hη => by
  show Post N X Lb Ls (match onRes (a η) η (fun d => match bd d η with | some η' => .nx η' | none => .stuck) with | .nx η' => runK ms η' | r => r) (onE r k)
  refine onB_post (ha η hl hη) hl (hX η hη) fun x => ?_
  obtain ⟨η1, e1, l1, a1⟩ := hb x η hl hη
  rw [e1]
  exact h x _ l1 a1
/-- i, j = a, b -/
theorem k_par {γ δ : Type} [Enc γ] [Enc δ] {x : γ} {y : δ} {t : TF β σ ρ} (hi : i < N) (hj : j < N) (ha : ∀ η, η.length = N → Has η L → Sm enc (a η) (.ok x)) (hb : ∀ η, η.length = N → Has η L → Sm enc (b η) (.ok y)) (h : SimK N X Lb Ls ms ((j, enc y) :: (i, enc x) :: L) t) : SimK N X Lb Ls (sPar i j a b :: ms) L t := fun η hl hη => by
  have e1 : a η = .ok (enc x) := ha η hl hη
  have e2 : b η = .ok (enc y) := hb η hl hη
  have h1 := hη.set i (d := enc x) (by omega)
  have h2 := h1.set j (d := enc y) (by rw [List.length_set]; omega)
  have z := h _ (by rw [List.length_set, List.length_set]; exact hl) h2
  have e3 : sPar i j a b η = .nx ((η.set i (some (enc x))).set j (some (enc y))) := by
    rw [sPar_ap, e1, ev_bind, e2, ev_bind, ev_on, if_pos ⟨by omega, by omega⟩]
  have e4 : runK (sPar i j a b :: ms) η = runK ms ((η.set i (some (enc x))).set j (some (enc y))) := by
    show (match sPar i j a b η with | .nx η' => runK ms η' | r => r) = _
    rw [e3]
  rw [e4]; exact z
theorem k_parE {γ δ : Type} [Enc γ] [Enc δ] {r : Res (γ × δ)} {k : γ × δ → TF β σ ρ} (hi : i < N) (hj : j < N) (hX : Sub L X) (ha : ∀ η, η.length = N → Has η L → Sm (fun p : γ × δ => (enc p.1, enc p.2)) ((a η).bind fun x => (b η).bind fun y => .ok (x, y)) r) (h : ∀ p : γ × δ, SimK N X Lb Ls ms ((j, enc p.2) :: (i, enc p.1) :: L) (k p)) : SimK N X Lb Ls (sPar i j a b :: ms) L (onE r k) := fun η hl hη => by
  show Post N X Lb Ls (match sPar i j a b η with | .nx η' => runK ms η' | r => r) (onE r k)
  rw [sPar_ap]
  refine onB_post (ha η hl hη) hl (hX η hη) fun p => ?_
  have h1 := hη.set i (d := enc p.1) (by omega)
  have h2 := h1.set j (d := enc p.2) (by rw [List.length_set]; omega)
  rw [if_pos ⟨by omega, by omega⟩]
  exact h p _ (by rw [List.length_set, List.length_set]; exact hl) h2
theorem k_augP {γ : Type} [Enc γ] {f : D → D → Res D} {x : γ} {t : TF β σ ρ} (hi : i < N) (ha : ∀ η, η.length = N → Has η L → Sm enc (dOp2 f (dVar i) a η) (.ok x)) (h : SimK N X Lb Ls ms ((i, enc x) :: L) t) : SimK N X Lb Ls (sAug i f a :: ms) L t := fun η hl hη => by
  have e : dOp2 f (dVar i) a η = .ok (enc x) := ha η hl hη
  have z := h (η.set i (some (enc x))) (by rw [List.length_set]; exact hl) (hη.set i (by omega))
  have e3 : sAug i f a η = .nx (η.set i (some (enc x))) := by
    unfold sAug
    rw [e, ev_on, if_pos (by omega)]
  have e2 : runK (sAug i f a :: ms) η = runK ms (η.set i (some (enc x))) := by
    show (match sAug i f a η with | .nx η' => runK ms η' | r => r) = _
    rw [e3]
  rw [e2]; exact z
theorem k_augE {γ : Type} [Enc γ] {f : D → D → Res D} {r : Res γ} {k : γ → TF β σ ρ} (hi : i < N) (hX : Sub L X) (ha : ∀ η, η.length = N → Has η L → Sm enc (dOp2 f (dVar i) a η) r) (h : ∀ x, SimK N X Lb Ls ms ((i, enc x) :: L) (k x)) : SimK N X Lb Ls (sAug i f a :: ms) L (onE r k) := fun η hl hη => by
  show Post N X Lb Ls (match onRes (dOp2 f (dVar i) a η) η (fun d => if i < η.length then .nx (η.set i (some d)) else .stuck) with | .nx η' => runK ms η' | r => r) (onE r k)
  refine onB_post (ha η hl hη) hl (hX η hη) fun x => ?_
  rw [if_pos (by omega)]
  exact h x _ (by rw [List.length_set]; exact hl) (hη.set i (by omega))
theorem k_exprE {r : Res α} {k : α → TF β σ ρ} (hX : Sub L X) (ha : ∀ η, η.length = N → Has η L → Sm enc (a η) r) (h : ∀ x, SimK N X Lb Ls ms L (k x)) : SimK N X Lb Ls (sExpr a :: ms) L (onE r k) := fun η hl hη => by
  show Post N X Lb Ls (match onRes (a η) η (fun _ => .nx η) with | .nx η' => runK ms η' | r => r) (onE r k)
  exact onB_post (ha η hl hη) hl (hX η hη) fun x => h x η hl hη
theorem k_exprP {x : α} {t : TF β σ ρ} (ha : ∀ η, η.length = N → Has η L → Sm enc (a η) (.ok x)) (h : SimK N X Lb Ls ms L t) : SimK N X Lb Ls (sExpr a :: ms) L t := fun η hl hη => by
  show Post N X Lb Ls (match onRes (a η) η (fun _ => .nx η) with | .nx η' => runK ms η' | r => r) t
  have e : a η = .ok (enc x) := ha η hl hη
  rw [e]
  exact h η hl hη
theorem k_retP {x : ρ} (ha : ∀ η, η.length = N → Has η L → Sm enc (a η) (.ok x)) : SimK N X Lb Ls (sRet a :: ms) L (.rt x : TF β σ ρ) := fun η hl hη => by
  show Post N X Lb Ls (match onRes (a η) η (fun d => .rt d) with | .nx η' => runK ms η' | r => r) (.rt x)
  have e : a η = .ok (enc x) := ha η hl hη
  rw [e]
  rfl
theorem k_retE {r : Res ρ} (hX : Sub L X) (ha : ∀ η, η.length = N → Has η L → Sm enc (a η) r) : SimK N X Lb Ls (sRet a :: ms) L (onE r TF.rt : TF β σ ρ) := fun η hl hη => by
  show Post N X Lb Ls (match onRes (a η) η (fun d => .rt d) with | .nx η' => runK ms η' | r => r) (onE r TF.rt)
  exact onB_post (ha η hl hη) hl (hX η hη) fun x => rfl
theorem k_retN {u : ρ} (hu : enc u = D.non) : SimK N X Lb Ls (sRetN :: ms) L (.rt u : TF β σ ρ) := fun η hl hη => by
  show (Fl.rt .non) = .rt (enc u)
  rw [hu]
theorem k_raise (e : Er) (hX : Sub L X) : SimK N X Lb Ls (sRaise e :: ms) L (.ex e : TF β σ ρ) := fun η hl hη => ⟨η, rfl, hl, hX η hη⟩
theorem k_brk {s : β} (h : Sub L (Lb s)) : SimK N X Lb Ls (sBreak :: ms) L (.bk s : TF β σ ρ) := fun η hl hη => ⟨η, rfl, hl, h η hη⟩
theorem k_cont {s : β} (h : Sub L (Lb s)) : SimK N X Lb Ls (sCont :: ms) L (.ct s : TF β σ ρ) := fun η hl hη => ⟨η, rfl, hl, h η hη⟩
theorem k_ifP {c : Bool} {t1 t2 : TF β σ ρ} (hq : ∀ η, η.length = N → Has η L → Sm id (q η) (.ok c)) (h1 : SimK N X Lb Ls (m1 :: ms) L t1) (h2 : SimK N X Lb Ls (m2 :: ms) L t2) : SimK N X Lb Ls (sIf q m1 m2 :: ms) L (if c then t1 else t2) := fun η hl hη => by
  show Post N X Lb Ls (match onRes (q η) η (fun k => if k then m1 η else m2 η) with | .nx η' => runK ms η' | r => r) _
  have e : q η = .ok c := hq η hl hη
  rw [e]
  cases c with
  | true => exact h1 η hl hη
  | false => exact h2 η hl hη
theorem k_ifE {r : Res Bool} {t1 t2 : TF β σ ρ} (hX : Sub L X) (hq : ∀ η, η.length = N → Has η L → Sm id (q η) r) (h1 : SimK N X Lb Ls (m1 :: ms) L t1) (h2 : SimK N X Lb Ls (m2 :: ms) L t2) : SimK N X Lb Ls (sIf q m1 m2 :: ms) L (onE r fun c => if c then t1 else t2) := fun η hl hη => by
  show Post N X Lb Ls (match onRes (q η) η (fun k => if k then m1 η else m2 η) with | .nx η' => runK ms η' | r => r) _
  refine onB_post (hq η hl hη) hl (hX η hη) fun c => ?_
  cases c with
  | true => exact h1 η hl hη
  | false => exact h2 η hl hη
theorem k_weak {t : TF β σ ρ} (h : Sub L L1) (k : SimK N X Lb Ls ms L1 t) : SimK N X Lb Ls ms L t := fun η hl hη => k η hl (h η hη)
/-- two ways come together -/
theorem k_join {Lm : τ → En} {t : TF β τ ρ} {k : τ → TF β σ ρ} (h1 : SimK N X Lb Lm [m] L t) (h2 : ∀ s, SimK N X Lb Ls ms (Lm s) (k s)) : SimK N X Lb Ls (m :: ms) L (t.bind k) := fun η hl hη => by
  have z := h1 η hl hη
  show Post N X Lb Ls (match m η with | .nx η' => runK ms η' | r => r) _
  have z' : Post N X Lb Lm (match m η with | .nx η' => Fl.nx η' | r => r) t := z
  cases t with
  | nx s =>
    obtain ⟨η1, e, l1, a1⟩ := z'
    cases hm : m η <;> rw [hm] at e <;> cases e
    exact h2 s _ l1 a1
  | rt r =>
    have e : (match m η with | .nx η' => Fl.nx η' | r => r) = .rt (enc r) := z'
    cases hm : m η <;> rw [hm] at e <;> cases e
    exact rfl
  | bk b =>
    obtain ⟨η1, e, l1, a1⟩ := z'
    cases hm : m η <;> rw [hm] at e <;> cases e
    exact ⟨_, rfl, l1, a1⟩
  | ct b =>
    obtain ⟨η1, e, l1, a1⟩ := z'
    cases hm : m η <;> rw [hm] at e <;> cases e
    exact ⟨_, rfl, l1, a1⟩
  | ex er =>
    obtain ⟨η1, e, l1, a1⟩ := z'
    cases hm : m η <;> rw [hm] at e <;> cases e
    exact ⟨_, rfl, l1, a1⟩
  | stuck => exact trivial
/-! loops -/
theorem fl_eta {fl : Fl} : (match fl with | .nx η' => Fl.nx η' | r => r) = fl := by cases fl <;> rfl
theorem for_sim {Lh : σ → En} {t : Bd} {body : Env → Fl} {f : α → σ → TF σ σ ρ} {L1 : α → σ → En} (ht : ∀ x s, SimT N t (enc x) (Lh s) (L1 x s)) (hb : ∀ x s, SimK N X Lh Lh [body] (L1 x s) (f x s)) : ∀ (xs : List α) (s : σ) (η : Env), η.length = N → Has η (Lh s) → Post N X Lb Lh (forGo t body (xs.map enc) η) (tFor xs s f : TF β σ ρ)
  | [], s, η, hl, hη => ⟨η, rfl, hl, hη⟩
  | x :: xs, s, η, hl, hη => by
    obtain ⟨η1, e1, l1, a1⟩ := ht x s η hl hη
    have z := hb x s η1 l1 a1
    have z' : Post N X Lh Lh (match body η1 with | .nx η' => Fl.nx η' | r => r) (f x s) := z
    rw [List.map_cons, ev_forC, e1]
    show Post N X Lb Lh (match body η1 with | .nx η' => forGo t body (xs.map enc) η' | .ct η' => forGo t body (xs.map enc) η' | .bk η' => .nx η' | r => r) (match f x s with | .nx s' => tFor xs s' f | .ct s' => tFor xs s' f | .bk s' => .nx s' | .rt r => .rt r | .ex e => .ex e | .stuck => .stuck)
    cases hf : f x s with
    | nx s' =>
      rw [hf] at z'
      obtain ⟨η2, e, l2, a2⟩ := z'
      cases hm : body η1 <;> rw [hm] at e <;> cases e
      exact for_sim ht hb xs s' _ l2 a2
    | rt r =>
      rw [hf] at z'
      have e : (match body η1 with | .nx η' => Fl.nx η' | r => r) = .rt (enc r) := z'
      cases hm : body η1 <;> rw [hm] at e <;> cases e
      exact rfl
    | bk b =>
      rw [hf] at z'
      obtain ⟨η2, e, l2, a2⟩ := z'
      cases hm : body η1 <;> rw [hm] at e <;> cases e
      exact ⟨_, rfl, l2, a2⟩
    | ct b =>
      rw [hf] at z'
      obtain ⟨η2, e, l2, a2⟩ := z'
      cases hm : body η1 <;> rw [hm] at e <;> cases e
      exact for_sim ht hb xs b _ l2 a2
    | ex er =>
      rw [hf] at z'
      obtain ⟨η2, e, l2, a2⟩ := z'
      cases hm : body η1 <;> rw [hm] at e <;> cases e
      exact ⟨_, rfl, l2, a2⟩
    | stuck => exact trivial
theorem k_for {it : M (List D)} {t : Bd} {body : Env → Fl} {ri : Res (List α)} (Lh : σ → En) {f : α → σ → TF σ σ ρ} {L1 : α → σ → En} {s0 : σ} {Ls : τ → En} {k : σ → TF β τ ρ} (hX : Sub L X) (hi : ∀ η, η.length = N → Has η L → Sm (List.map enc) (it η) ri) (h0 : Sub L (Lh s0)) (ht : ∀ x s, SimT N t (enc x) (Lh s) (L1 x s)) (hb : ∀ x s, SimK N X Lh Lh [body] (L1 x s) (f x s)) (hk : ∀ s, SimK N X Lb Ls ms (Lh s) (k s)) :
    SimK N X Lb Ls (sFor it t body :: ms) L (onE ri fun xs => (tFor xs s0 f).bind k) := fun η hl hη => by
  show Post N X Lb Ls (match onRes (it η) η (fun xs => forGo t body xs η) with | .nx η' => runK ms η' | r => r) _
  refine onB_post (hi η hl hη) hl (hX η hη) fun xs => ?_
  have z := k_join (N := N) (X := X) (Lb := Lb) (Lm := Lh) (Ls := Ls) (m := fun η => forGo t body (xs.map enc) η) (ms := ms) (L := Lh s0) (t := tFor xs s0 f) (k := k) (fun η hl hη => by
    have y := for_sim (Lb := Lb) ht hb xs s0 η hl hη
    show Post N X Lb Lh (match forGo t body (xs.map enc) η with | .nx η' => Fl.nx η' | r => r) _
    rw [fl_eta]; exact y) hk
  exact z η hl (h0 η hη)
theorem k_forP {it : M (List D)} {t : Bd} {body : Env → Fl} {xs : List α} (Lh : σ → En) {f : α → σ → TF σ σ ρ} {L1 : α → σ → En} {s0 : σ} {Ls : τ → En} {k : σ → TF β τ ρ} (hi : ∀ η, η.length = N → Has η L → Sm (List.map enc) (it η) (.ok xs)) (h0 : Sub L (Lh s0)) (ht : ∀ x s, SimT N t (enc x) (Lh s) (L1 x s)) (hb : ∀ x s, SimK N X Lh Lh [body] (L1 x s) (f x s)) (hk : ∀ s, SimK N X Lb Ls ms (Lh s) (k s)) :
    SimK N X Lb Ls (sFor it t body :: ms) L ((tFor xs s0 f).bind k) := fun η hl hη => by
  show Post N X Lb Ls (match onRes (it η) η (fun xs => forGo t body xs η) with | .nx η' => runK ms η' | r => r) _
  have e : it η = .ok (xs.map enc) := hi η hl hη
  rw [e]
  have z := k_join (N := N) (X := X) (Lb := Lb) (Lm := Lh) (Ls := Ls) (m := fun η => forGo t body (xs.map enc) η) (ms := ms) (L := Lh s0) (t := tFor xs s0 f) (k := k) (fun η hl hη => by
    have y := for_sim (Lb := Lb) ht hb xs s0 η hl hη
    show Post N X Lb Lh (match forGo t body (xs.map enc) η with | .nx η' => Fl.nx η' | r => r) _
    rw [fl_eta]; exact y) hk
  exact z η hl (h0 η hη)
end
section
variable {α β σ τ ρ : Type} [Enc ρ] {N : Nat} {X L L1 : En} {Lb : β → En} {m m1 m2 : Env → Fl} {ms : List (Env → Fl)} {q : M Bool}
theorem while_sim {Lh : σ → En} {body : Env → Fl} {tq : σ → Res Bool} {f : σ → TF σ σ ρ} (hX : ∀ s, Sub (Lh s) X) (hq : ∀ s η, η.length = N → Has η (Lh s) → Sm id (q η) (tq s)) (hb : ∀ s, SimK N X Lh Lh [body] (Lh s) (f s)) : ∀ (n : Nat) (s : σ) (η : Env), η.length = N → Has η (Lh s) → Post N X Lb Lh (whileGo q body n η) (tWhileN tq f n s : TF β σ ρ)
  | 0, s, η, hl, hη => trivial
  | n + 1, s, η, hl, hη => by
    have w := hq s η hl hη
    show Post N X Lb Lh (onRes (q η) η fun k => if k then (match body η with | .nx η' => whileGo q body n η' | .ct η' => whileGo q body n η' | .bk η' => .nx η' | r => r) else .nx η) (onE (tq s) fun c => if c then (match f s with | .nx s' => tWhileN tq f n s' | .ct s' => tWhileN tq f n s' | .bk s' => .nx s' | .rt r => .rt r | .ex e => .ex e | .stuck => .stuck) else .nx s)
    cases hc : tq s with
    | exc er =>
      rw [hc] at w
      have w' : q η = .exc er := w
      rw [w']
      exact ⟨η, rfl, hl, hX s η hη⟩
    | stuck => exact trivial
    | ok c =>
      rw [hc] at w
      have w' : q η = .ok c := w
      rw [w']
      cases c with
      | false => exact ⟨η, rfl, hl, hη⟩
      | true =>
        show Post N X Lb Lh (match body η with | .nx η' => whileGo q body n η' | .ct η' => whileGo q body n η' | .bk η' => .nx η' | r => r) (match f s with | .nx s' => tWhileN tq f n s' | .ct s' => tWhileN tq f n s' | .bk s' => .nx s' | .rt r => .rt r | .ex e => .ex e | .stuck => .stuck)
        have z' : Post N X Lh Lh (match body η with | .nx η' => Fl.nx η' | r => r) (f s) := hb s η hl hη
        cases hf : f s with
        | nx s' =>
          rw [hf] at z'
          obtain ⟨η2, e, l2, a2⟩ := z'
          cases hm : body η <;> rw [hm] at e <;> cases e
          exact while_sim hX hq hb n s' _ l2 a2
        | rt r =>
          rw [hf] at z'
          have e : (match body η with | .nx η' => Fl.nx η' | r => r) = .rt (enc r) := z'
          cases hm : body η <;> rw [hm] at e <;> cases e
          exact rfl
        | bk b =>
          rw [hf] at z'
          obtain ⟨η2, e, l2, a2⟩ := z'
          cases hm : body η <;> rw [hm] at e <;> cases e
          exact ⟨_, rfl, l2, a2⟩
        | ct b =>
          rw [hf] at z'
          obtain ⟨η2, e, l2, a2⟩ := z'
          cases hm : body η <;> rw [hm] at e <;> cases e
          exact while_sim hX hq hb n b _ l2 a2
        | ex er =>
          rw [hf] at z'
          obtain ⟨η2, e, l2, a2⟩ := z'
          cases hm : body η <;> rw [hm] at e <;> cases e
          exact ⟨_, rfl, l2, a2⟩
        | stuck => exact trivial
theorem tWhile_eq {tq : σ → Res Bool} {f : σ → TF σ σ ρ} {s : σ} (h : (tWhile tq s f : TF β σ ρ) ≠ .stuck) : ∃ n, (tWhile tq s f : TF β σ ρ) = tWhileN tq f n s := by
  by_cases ex : ∃ n, tWhileN (β := β) tq f n s ≠ .stuck
  · exact ⟨_, by unfold tWhile; rw [dif_pos ex]⟩
  · exfalso
    apply h
    unfold tWhile
    rw [dif_neg ex]
theorem post_ns {Ls : σ → En} {fl : Fl} {t : TF β σ ρ} (h : Post N X Lb Ls fl t) (ht : t ≠ .stuck) : fl ≠ .stuck := by
  intro e
  subst e
  cases t with
  | nx s => obtain ⟨η, e, _⟩ := h; cases e
  | rt r => have e : Fl.stuck = .rt (enc r) := h; cases e
  | bk s => obtain ⟨η, e, _⟩ := h; cases e
  | ct s => obtain ⟨η, e, _⟩ := h; cases e
  | ex s => obtain ⟨η, e, _⟩ := h; cases e
  | stuck => exact ht rfl
theorem k_while {body : Env → Fl} (Lh : σ → En) {tq : σ → Res Bool} {f : σ → TF σ σ ρ} {s0 : σ} {Ls : τ → En} {k : σ → TF β τ ρ} (hX : ∀ s, Sub (Lh s) X) (h0 : Sub L (Lh s0)) (hq : ∀ s η, η.length = N → Has η (Lh s) → Sm id (q η) (tq s)) (hb : ∀ s, SimK N X Lh Lh [body] (Lh s) (f s)) (hk : ∀ s, SimK N X Lb Ls ms (Lh s) (k s)) :
    SimK N X Lb Ls (sWhile q body :: ms) L ((tWhile tq s0 f).bind k) := fun η hl hη => by
  have z := k_join (N := N) (X := X) (Lb := Lb) (Lm := Lh) (Ls := Ls) (m := sWhile q body) (ms := ms) (L := Lh s0) (t := tWhile tq s0 f) (k := k) (fun η hl hη => by
    by_cases hs : (tWhile tq s0 f : TF β σ ρ) = .stuck
    · rw [hs]; exact trivial
    · obtain ⟨n, e⟩ := tWhile_eq hs
      have y := while_sim (Lb := Lb) hX hq hb n s0 η hl hη
      rw [e] at hs ⊢
      have e2 := sWhile_eq n (post_ns y hs)
      show Post N X Lb Lh (match sWhile q body η with | .nx η' => Fl.nx η' | r => r) _
      rw [e2, fl_eta]; exact y) hk
  exact z η hl (h0 η hη)
theorem tWhileN_mono {tq : σ → Res Bool} {f : σ → TF σ σ ρ} : ∀ (n k : Nat) (s : σ), n ≤ k → tWhileN (β := β) tq f n s ≠ .stuck → tWhileN (β := β) tq f k s = tWhileN tq f n s
  | 0, _, _, _, h => absurd rfl h
  | n + 1, 0, _, hk, _ => absurd hk (by omega)
  | n + 1, k + 1, s, hk, h => by
    unfold tWhileN at h ⊢
    cases hq : tq s with
    | ok b =>
      rw [hq] at h
      cases b with
      | false => rfl
      | true =>
        have h' : (match f s with | .nx s' => tWhileN (β := β) tq f n s' | .ct s' => tWhileN tq f n s' | .bk s' => .nx s' | .rt r => .rt r | .ex e => .ex e | .stuck => .stuck) ≠ .stuck := h
        show (match f s with | .nx s' => tWhileN (β := β) tq f k s' | .ct s' => tWhileN tq f k s' | .bk s' => .nx s' | .rt r => .rt r | .ex e => .ex e | .stuck => .stuck) = (match f s with | .nx s' => tWhileN tq f n s' | .ct s' => tWhileN tq f n s' | .bk s' => .nx s' | .rt r => .rt r | .ex e => .ex e | .stuck => .stuck)
        cases e : f s with
        | nx s' => rw [e] at h'; exact tWhileN_mono n k s' (by omega) h'
        | ct s' => rw [e] at h'; exact tWhileN_mono n k s' (by omega) h'
        | bk s' => rfl
        | rt d => rfl
        | ex er => rfl
        | stuck => rfl
    | exc er => rfl
    | stuck => rfl
theorem tWhile_of {tq : σ → Res Bool} {f : σ → TF σ σ ρ} {s : σ} (n : Nat) {r : TF β σ ρ} (h : tWhileN tq f n s = r) (hr : r ≠ .stuck) : tWhile tq s f = r := by
  have h2 : tWhileN (β := β) tq f n s ≠ .stuck := by rw [h]; exact hr
  have ex : ∃ n, tWhileN (β := β) tq f n s ≠ .stuck := ⟨n, h2⟩
  unfold tWhile
  rw [dif_pos ex]
  have h3 := Classical.choose_spec ex
  rcases Nat.le_total n (Classical.choose ex) with hl | hl
  · rw [tWhileN_mono n _ s hl h2, h]
  · rw [← h, tWhileN_mono _ n s hl h3]
end
/-! try -/
section
variable {β σ τ ρ : Type} [Enc ρ] {N : Nat} {X L Lx : En} {Lb : β → En} {m : Env → Fl} {ms : List (Env → Fl)}
theorem noEx_post {Lm : τ → En} {fl : Fl} {t : TF β τ ρ} (p : Post N Lx Lb Lm fl t) : Post N X Lb Lm (noEx fl) (match t with | .ex _ => .stuck | r => r) := by
  cases t with
  | nx s => obtain ⟨η1, rfl, l1, a1⟩ := p; exact ⟨η1, rfl, l1, a1⟩
  | rt r =>
    have e : fl = .rt (enc r) := p
    subst e
    exact rfl
  | bk b => obtain ⟨η1, rfl, l1, a1⟩ := p; exact ⟨η1, rfl, l1, a1⟩
  | ct b => obtain ⟨η1, rfl, l1, a1⟩ := p; exact ⟨η1, rfl, l1, a1⟩
  | ex e => exact trivial
  | stuck => exact trivial
theorem goneFl_post {Lm : τ → En} {fl : Fl} {t : TF β τ ρ} {i : Nat} (hm : ∀ s, lk (Lm s) i = none) (hlb : ∀ s, lk (Lb s) i = none) (p : Post N Lx Lb Lm fl t) : Post N X Lb Lm (goneFl i fl) (match t with | .ex _ => .stuck | r => r) := by
  cases t with
  | nx s => obtain ⟨η1, rfl, l1, a1⟩ := p; exact ⟨η1.set i none, rfl, by rw [List.length_set]; exact l1, a1.none i (hm s)⟩
  | rt r =>
    have e : fl = .rt (enc r) := p
    subst e
    exact rfl
  | bk b => obtain ⟨η1, rfl, l1, a1⟩ := p; exact ⟨η1.set i none, rfl, by rw [List.length_set]; exact l1, a1.none i (hlb b)⟩
  | ct b => obtain ⟨η1, rfl, l1, a1⟩ := p; exact ⟨η1.set i none, rfl, by rw [List.length_set]; exact l1, a1.none i (hlb b)⟩
  | ex e => exact trivial
  | stuck => exact trivial
theorem try_post {Lm : τ → En} {th : Er → TF β τ ρ} {c : Er} {fl : Fl} {t : TF β τ ρ} {F : Fl → Fl} (z : Post N Lx Lb Lm fl t) (hX : Sub Lx X)
    (h1 : ∀ fl, (∀ e η, fl ≠ .ex e η) → F fl = fl)
    (h2 : ∀ e η', η'.length = N → Has η' Lx → e.own = true → e.sub c = true → Post N X Lb Lm (F (.ex e η')) (match th e with | .ex _ => .stuck | r => r))
    (h3 : ∀ e η', η'.length = N → e.own = true → e.sub c = false → F (.ex e η') = .ex e η') : Post N X Lb Lm (F fl) (tTry t c th) := by
  cases t with
  | nx s =>
    obtain ⟨η1, rfl, l1, a1⟩ := z
    rw [h1 _ (fun e η q => by cases q)]
    exact ⟨η1, rfl, l1, a1⟩
  | rt r =>
    have e : fl = .rt (enc r) := z
    subst e
    rw [h1 _ (fun e η q => by cases q)]
    exact rfl
  | bk b =>
    obtain ⟨η1, rfl, l1, a1⟩ := z
    rw [h1 _ (fun e η q => by cases q)]
    exact ⟨η1, rfl, l1, a1⟩
  | ct b =>
    obtain ⟨η1, rfl, l1, a1⟩ := z
    rw [h1 _ (fun e η q => by cases q)]
    exact ⟨η1, rfl, l1, a1⟩
  | stuck => exact trivial
  | ex e =>
    obtain ⟨η1, rfl, l1, a1⟩ := z
    show Post N X Lb Lm (F (.ex e η1)) (if e.own then (if e.sub c then (match th e with | .ex _ => .stuck | r => r) else .ex e) else .stuck)
    cases ho : e.own with
    | false => exact trivial
    | true =>
      rw [if_pos rfl]
      cases hs : e.sub c with
      | true =>
        rw [if_pos rfl]
        exact h2 e η1 l1 a1 ho hs
      | false =>
        rw [if_neg Bool.false_ne_true, h3 e η1 l1 ho hs]
        exact ⟨η1, rfl, l1, hX η1 a1⟩
theorem tryO_sim {Lm : τ → En} {body : Env → Fl} {hd : Env → Fl} {c : Er} {t : TF β τ ρ} {th : Er → TF β τ ρ} (hX : Sub Lx X) (hb : SimK N Lx Lb Lm [body] L t) (hh : ∀ e, SimK N Lx Lb Lm [hd] Lx (th e)) : SimK N X Lb Lm [sTryOnly body c hd] L (tTry t c th) := fun η hl hη => by
  have z : Post N Lx Lb Lm (match body η with | .nx η' => Fl.nx η' | r => r) t := hb η hl hη
  rw [fl_eta] at z
  show Post N X Lb Lm (match sTryOnly body c hd η with | .nx η' => Fl.nx η' | r => r) _
  rw [fl_eta]
  refine try_post (F := fun fl => match fl with | .ex e η' => if e.own then (if e.sub c then noEx (hd η') else .ex e η') else .stuck | r => r) z hX (fun fl h => ?_) (fun e η' l1 a1 ho hs => ?_) (fun e η' l1 ho hs => ?_)
  · cases fl <;> first | rfl | exact absurd rfl (h _ _)
  · have y : Post N Lx Lb Lm (match hd η' with | .nx η' => Fl.nx η' | r => r) (th e) := hh e η' l1 a1
    rw [fl_eta] at y
    show Post N X Lb Lm (if e.own then (if e.sub c then noEx (hd η') else .ex e η') else .stuck) _
    rw [ho, hs]
    exact noEx_post y
  · show (if e.own then (if e.sub c then noEx (hd η') else .ex e η') else .stuck) = _
    rw [ho, hs]
    rfl
theorem tryA_sim {Lm : τ → En} {body : Env → Fl} {hd : Er → Env → Fl} {c : Er} {i : Nat} {t : TF β τ ρ} {th : Er → TF β τ ρ} (hi : i < N) (hX : Sub Lx X) (hxi : lk Lx i = none) (hm : ∀ s, lk (Lm s) i = none) (hlb : ∀ s, lk (Lb s) i = none) (hb : SimK N Lx Lb Lm [body] L t) (hh : ∀ e, SimK N Lx Lb Lm [hd e] Lx (th e)) : SimK N X Lb Lm [sTryAs body c i hd] L (tTry t c th) := fun η hl hη => by
  have z : Post N Lx Lb Lm (match body η with | .nx η' => Fl.nx η' | r => r) t := hb η hl hη
  rw [fl_eta] at z
  show Post N X Lb Lm (match sTryAs body c i hd η with | .nx η' => Fl.nx η' | r => r) _
  rw [fl_eta]
  refine try_post (F := fun fl => match fl with | .ex e η' => if e.own = true ∧ i < η'.length then (if e.sub c then goneFl i (hd e (η'.set i none)) else .ex e η') else .stuck | r => r) z hX (fun fl h => ?_) (fun e η' l1 a1 ho hs => ?_) (fun e η' l1 ho hs => ?_)
  · cases fl <;> first | rfl | exact absurd rfl (h _ _)
  · have y : Post N Lx Lb Lm (match hd e (η'.set i none) with | .nx η' => Fl.nx η' | r => r) (th e) := hh e (η'.set i none) (by rw [List.length_set]; exact l1) (a1.none i hxi)
    rw [fl_eta] at y
    show Post N X Lb Lm (if e.own = true ∧ i < η'.length then (if e.sub c then goneFl i (hd e (η'.set i none)) else .ex e η') else .stuck) _
    rw [if_pos ⟨ho, by omega⟩, hs]
    exact goneFl_post hm hlb y
  · show (if e.own = true ∧ i < η'.length then (if e.sub c then goneFl i (hd e (η'.set i none)) else .ex e η') else .stuck) = _
    rw [if_pos ⟨ho, by omega⟩, hs]
    rfl
end
/-! defs -/
section
variable {ρ : Type} [Enc ρ] {n m : Nat} {body : Env → Fl} {ds : List D}
theorem fn_sim {t : TF Unit Unit ρ} (hn : ds.length = n) (hm : n ≤ m) (h : SimK m [] (fun _ => []) (fun _ => []) [body] (idx 0 ds) t) : Sm enc (mkFn n m body ds) (tRun t) := by
  have z : Post m [] (fun _ => []) (fun _ => []) (match body (ds.map some ++ List.replicate (m - n) none) with | .nx η' => Fl.nx η' | r => r) t := h _ (by simp; omega) Has.init
  rw [fl_eta] at z
  rw [mk_fn hn]
  cases t with
  | rt r =>
    have e : body (ds.map some ++ List.replicate (m - n) none) = .rt (enc r) := z
    rw [e]; exact rfl
  | ex e =>
    obtain ⟨η, e, _⟩ := z
    rw [e]; exact rfl
  | nx s => exact trivial
  | bk s => exact trivial
  | ct s => exact trivial
  | stuck => exact trivial
theorem fn_simF {t : TF Unit Unit ρ} {r0 : ρ} (h0 : enc r0 = D.non) (hn : ds.length = n) (hm : n ≤ m) (h : SimK m [] (fun _ => []) (fun _ => []) [body] (idx 0 ds) t) : Sm enc (mkFn n m body ds) (tRunF r0 t) := by
  have z : Post m [] (fun _ => []) (fun _ => []) (match body (ds.map some ++ List.replicate (m - n) none) with | .nx η' => Fl.nx η' | r => r) t := h _ (by simp; omega) Has.init
  rw [fl_eta] at z
  rw [mk_fn hn]
  cases t with
  | rt r =>
    have e : body (ds.map some ++ List.replicate (m - n) none) = .rt (enc r) := z
    rw [e]; exact rfl
  | ex e =>
    obtain ⟨η, e, _⟩ := z
    rw [e]; exact rfl
  | nx s =>
    obtain ⟨η, e, _⟩ := z
    rw [e]
    show Res.ok D.non = .ok (enc r0)
    rw [h0]
  | bk s => exact trivial
  | ct s => exact trivial
  | stuck => exact trivial
end
end VT
/-! VTExpr: typed operators, expressions, what is walked, comprehensions. -/
namespace VT
open PySem hiding Env
open VL Enc
/-! ### typed operators -/
@[irreducible] def imul (x y : Int) : Res Int := if mulOk x y then .ok (x * y) else .stuck
@[irreducible] def idiv (x y : Int) : Res Int := if divOk x y then .ok (x / y) else .stuck
@[irreducible] def imod (x y : Int) : Res Int := if 0 < y then .ok (x % y) else .stuck
@[irreducible] def ipow (x y : Int) : Res Int := if powOk x y then .ok (x ^ y.toNat) else .stuck
@[irreducible] def ishl (x y : Int) : Res Int := if shlOk x y then .ok (x * 2 ^ y.toNat) else .stuck
@[irreducible] def ishr (x y : Int) : Res Int := if 0 ≤ y then .ok (x / 2 ^ y.toNat) else .stuck
def iabs (x : Int) : Int := if x < 0 then -x else x
def imax2 (x y : Int) : Int := if y > x then y else x
def imin2 (x y : Int) : Int := if y < x then y else x
def b2i (b : Bool) : Int := if b then 1 else 0
@[irreducible] def lcat {α : Type} (xs ys : List α) : Res (List α) := if xs.length + ys.length ≤ line then .ok (xs ++ ys) else .stuck
@[irreducible] def lrep {α : Type} (xs : List α) (k : Int) : Res (List α) := if k < 16777217 ∧ -16777217 < k ∧ xs.length * k.toNat ≤ line then .ok (List.replicate k.toNat xs).flatten else .stuck
@[irreducible] def lapp {α : Type} (xs : List α) (x : α) : Res (List α) := if xs.length < line then .ok (xs ++ [x]) else .stuck
def atL {α : Type} (xs : List α) (i : Int) : Option α := (ixOf xs.length i).bind fun j => xs[j]?
@[irreducible] def ix {α : Type} (xs : List α) (i : Int) : Res α := match atL xs i with
  | some x => .ok x
  | none => .stuck
@[irreducible] def setI {α : Type} (xs : List α) (i : Int) (x : α) : Res (List α) := match ixOf xs.length i with
  | some j => .ok (xs.set j x)
  | none => .stuck
def cutL {α : Type} (xs : List α) (lo hi : Option Int) : List α := (xs.drop (slIx xs.length 0 lo)).take (slIx xs.length xs.length hi - slIx xs.length 0 lo)
def ilen {α : Type} (xs : List α) : Int := (xs.length : Int)
@[irreducible] def imaxL (xs : List Int) : Res Int := match xs with
  | a :: r => .ok (maxL (a :: r))
  | [] => .stuck
@[irreducible] def iminL (xs : List Int) : Res Int := match xs with
  | a :: r => .ok (minL (a :: r))
  | [] => .stuck
def rng (lo : Int) (n : Nat) : List Int := (List.range n).map fun (k : Nat) => lo + (k : Int)
def rngC (lo c : Int) (n : Nat) : List Int := (List.range n).map fun (k : Nat) => lo + (k : Int) * c
@[irreducible] def irange (j : Int) : Res (List Int) := if -lim62 ≤ j ∧ j < lim62 then .ok (rng 0 j.toNat) else .stuck
@[irreducible] def irange2 (i j : Int) : Res (List Int) := if (-lim62 ≤ i ∧ i < lim62) ∧ (-lim62 ≤ j ∧ j < lim62) then .ok (rng i (j - i).toNat) else .stuck
@[irreducible] def irange3 (i j k : Int) : Res (List Int) := if rgOk i j k then .ok (rngC i k (Builtin.Range.rangeSize i j k).toNat) else .stuck
def enumL {α : Type} : Nat → List α → List (Int × α)
  | _, [] => []
  | k, x :: xs => ((k : Int), x) :: enumL (k + 1) xs
def tFM {α γ : Type} (q : α → Res Bool) (f : α → Res γ) : List α → Res (List γ)
  | [] => .ok []
  | x :: xs => match q x with
    | .ok true => (match f x with
      | .ok y => (match tFM q f xs with
        | .ok ys => .ok (y :: ys)
        | _ => .stuck)
      | _ => .stuck)
    | .ok false => tFM q f xs
    | _ => .stuck
@[irreducible] def capL {α γ : Type} (xs : List α) (r : Res (List γ)) : Res (List γ) := if xs.length ≤ line then r else .stuck
/-- [g x for x in xs] -/
@[irreducible] def cmap {α γ : Type} (g : α → γ) (xs : List α) : Res (List γ) := capL xs (.ok (xs.map g))
@[irreducible] def cmapE {α γ : Type} (f : α → Res γ) (xs : List α) : Res (List γ) := capL xs (tFM (fun _ => .ok true) f xs)
/-- [g x for x in xs if p x] -/
@[irreducible] def cfm {α γ : Type} (p : α → Bool) (g : α → γ) (xs : List α) : Res (List γ) := capL xs (.ok ((xs.filter p).map g))
@[irreducible] def cfmE {α γ : Type} (q : α → Res Bool) (f : α → Res γ) (xs : List α) : Res (List γ) := capL xs (tFM q f xs)
def rand (a b : Res Bool) : Res Bool := a.bind fun c => if c then b else .ok false
def ror (a b : Res Bool) : Res Bool := a.bind fun c => if c then .ok true else b
/-! ### expressions -/
section
variable {α β γ δ ε : Type} {e : α → δ} {d : Res δ} {t : Res α} {η : Env} {L : En} {a b c : M D} {qa qb : M Bool} {mas mbs : M (List D)} {f g : D → D → Res D} {own : List Nat}
theorem u_op1 {f : D → Res D} {e : α → D} (h : Sm e ((a η).bind f) t) : Sm e (dOp1 f a η) t := h
theorem u_op2 {e : α → D} (h : Sm e ((a η).bind fun x => (b η).bind fun y => f x y) t) : Sm e (dOp2 f a b η) t := h
theorem u_callK {f : List D → List D → Res D} {e : α → D} (h : Sm e ((mas η).bind fun xs => (mbs η).bind fun ys => f xs ys) t) : Sm e (dCallK f mas mbs η) t := h
theorem u_call {f : List D → Res D} {e : α → D} (h : Sm e ((mas η).bind f) t) : Sm e (dCall f mas η) t := h
theorem u_chain' {e : α → D} (h : Sm e ((a η).bind fun x => (b η).bind fun y => (f x y).bind fun r => (toB r).bind fun k => if k then (c η).bind fun z => g y z else .ok (.bl false)) t) : Sm e (dChain f g a b c η) t := h
theorem e_var {β : Type} [Enc β] {x : β} (h : Has η L) (i : Nat) (e : lk L i = some (enc x)) : Sm enc (dVar i η) (.ok x) := h.var i e
theorem chain_in {d : Res D} {m : D → Res D} {r1 r2 : Res Bool} (h1 : Sm enc d r1) (h2 : Sm enc ((c η).bind m) r2) : Sm enc (d.bind fun r => (toB r).bind fun k => if k then (c η).bind m else .ok (.bl false)) (rand r1 r2) := by
  unfold rand
  refine bE h1 fun k => ?_
  show Sm enc ((toB (.bl k)).bind fun k => if k then (c η).bind m else .ok (.bl false)) (if k then r2 else .ok false)
  cases k with
  | true => exact h2
  | false => exact rfl
theorem chain_inP {d : Res D} {m : D → Res D} {c1 c2 : Bool} (h1 : Sm enc d (.ok c1)) (h2 : Sm enc ((c η).bind m) (.ok c2)) : Sm enc (d.bind fun r => (toB r).bind fun k => if k then (c η).bind m else .ok (.bl false)) (.ok (c1 && c2)) := by
  have z := chain_in h1 h2
  cases c1 <;> exact z
theorem u_lst {e : α → D} (h : Sm e ((mas η).bind fun xs => if xs.length ≤ line then .ok (.lst xs) else .stuck) t) : Sm e (dLst mas η) t := h
theorem u_tup {e : α → D} (h : Sm e ((mas η).bind fun xs => if xs.length ≤ line then .ok (.tup xs) else .stuck) t) : Sm e (dTup mas η) t := h
variable [Enc β] [Enc γ]
theorem a_nil {K : List D → Res δ} (g : Sm e (K []) t) : Sm e ((aNil η).bind K) t := g
theorem a_consP {K : List D → Res δ} {x : β} (h : Sm enc (a η) (.ok x)) (g : Sm e ((mas η).bind fun xs => K (enc x :: xs)) t) : Sm e ((aCons a mas η).bind K) t := by
  have h' : a η = .ok (enc x) := h
  have q : (aCons a mas η).bind K = (mas η).bind fun xs => K (enc x :: xs) := by
    rw [ev_cons, h', ev_bind]
    cases mas η <;> rfl
  rw [q]; exact g
theorem a_consE {K : List D → Res δ} {r : Res β} {t : β → Res α} (h : Sm enc (a η) r) (g : ∀ x, Sm e ((mas η).bind fun xs => K (enc x :: xs)) (t x)) : Sm e ((aCons a mas η).bind K) (r.bind t) := by
  cases r with
  | ok x => exact a_consP h (g x)
  | exc er =>
    have h' : a η = .exc er := h
    rw [ev_cons, h']; exact rfl
  | stuck => exact trivial
theorem e_lit {d : D} {x : β} (h : d = enc x) : Sm enc (dLit d η) (.ok x) := by
  subst h; exact rfl
theorem u_and {ra rb : Res Bool} (ha : Sm enc (a η) ra) (hb : Sm enc (b η) rb) : Sm enc (dAnd a b η) (rand ra rb) := by
  rw [ev_and]
  unfold rand
  refine bE ha fun c => ?_
  cases c with
  | true => exact hb
  | false => exact rfl
theorem u_andP {c1 c2 : Bool} (ha : Sm enc (a η) (.ok c1)) (hb : Sm enc (b η) (.ok c2)) : Sm enc (dAnd a b η) (.ok (c1 && c2)) := by
  have z := u_and ha hb
  cases c1 <;> exact z
theorem u_or {ra rb : Res Bool} (ha : Sm enc (a η) ra) (hb : Sm enc (b η) rb) : Sm enc (dOr a b η) (ror ra rb) := by
  rw [ev_or]
  unfold ror
  refine bE ha fun c => ?_
  cases c with
  | true => exact rfl
  | false => exact hb
theorem u_orP {c1 c2 : Bool} (ha : Sm enc (a η) (.ok c1)) (hb : Sm enc (b η) (.ok c2)) : Sm enc (dOr a b η) (.ok (c1 || c2)) := by
  have z := u_or ha hb
  cases c1 <;> exact z
theorem u_notP {c : Bool} (ha : Sm enc (a η) (.ok c)) : Sm enc (dNot a η) (.ok (!c)) := by
  have h' : a η = .ok (.bl c) := ha
  rw [ev_not, h']; exact rfl
theorem u_not {r : Res Bool} (ha : Sm enc (a η) r) : Sm enc (dNot a η) (r.bind fun c => .ok (!c)) := by
  rw [ev_not]
  exact bE ha fun c => rfl
theorem u_qB {r : Res Bool} (h : Sm enc (a η) r) : Sm id (qB a η) r := by
  cases r with
  | ok x => have h' : a η = .ok (.bl x) := h; rw [ev_qB, h']; exact rfl
  | exc er => have h' : a η = .exc er := h; rw [ev_qB, h']; exact rfl
  | stuck => exact trivial
theorem u_qTruB {r : Res Bool} (h : Sm enc (a η) r) : Sm id (qTru a η) r := by
  cases r with
  | ok x => have h' : a η = .ok (.bl x) := h; rw [ev_qTru, h']; exact rfl
  | exc er => have h' : a η = .exc er := h; rw [ev_qTru, h']; exact rfl
  | stuck => exact trivial
theorem u_qTruI {x : Int} (h : Sm enc (a η) (.ok x)) : Sm id (qTru a η) (.ok (x != 0)) := by
  have h' : a η = .ok (.int x) := h; rw [ev_qTru, h']; exact rfl
theorem u_qTruL {xs : List β} (h : Sm enc (a η) (.ok xs)) : Sm id (qTru a η) (.ok (!xs.isEmpty)) := by
  have h' : a η = .ok (.lst (xs.map enc)) := h
  rw [ev_qTru, h']
  cases xs <;> exact rfl
theorem u_qTruD {r : Res D} (h : Sm enc (a η) r) : Sm id (qTru a η) (r.bind D.truth) := by
  cases r with
  | ok x => have h' : a η = .ok x := h; rw [ev_qTru, h']; exact (show Sm id (D.truth x) (D.truth x) from by cases D.truth x <;> first | rfl | trivial)
  | exc er => have h' : a η = .exc er := h; rw [ev_qTru, h']; exact rfl
  | stuck => exact trivial
theorem u_qAnd {ra rb : Res Bool} (ha : Sm id (qa η) ra) (hb : Sm id (qb η) rb) : Sm id (qAnd qa qb η) (rand ra rb) := by
  rw [ev_qAnd]
  unfold rand
  refine bE ha fun c => ?_
  cases c with
  | true => exact hb
  | false => exact rfl
theorem u_qAndP {c1 c2 : Bool} (ha : Sm id (qa η) (.ok c1)) (hb : Sm id (qb η) (.ok c2)) : Sm id (qAnd qa qb η) (.ok (c1 && c2)) := by
  have z := u_qAnd ha hb
  cases c1 <;> exact z
theorem u_qOr {ra rb : Res Bool} (ha : Sm id (qa η) ra) (hb : Sm id (qb η) rb) : Sm id (qOr qa qb η) (ror ra rb) := by
  rw [ev_qOr]
  unfold ror
  refine bE ha fun c => ?_
  cases c with
  | true => exact rfl
  | false => exact hb
theorem u_qOrP {c1 c2 : Bool} (ha : Sm id (qa η) (.ok c1)) (hb : Sm id (qb η) (.ok c2)) : Sm id (qOr qa qb η) (.ok (c1 || c2)) := by
  have z := u_qOr ha hb
  cases c1 <;> exact z
theorem u_qNotP {c : Bool} (ha : Sm id (qa η) (.ok c)) : Sm id (qNot qa η) (.ok (!c)) := by
  have h' : qa η = .ok c := ha
  rw [ev_qNot, h']; exact rfl
theorem u_qNot {r : Res Bool} (ha : Sm id (qa η) r) : Sm id (qNot qa η) (r.bind fun c => .ok (!c)) := by
  rw [ev_qNot]
  exact bE ha fun c => rfl
theorem u_if {q : M Bool} {c : Bool} {r1 r2 : Res β} (hq : Sm id (q η) (.ok c)) (h1 : Sm enc (a η) r1) (h2 : Sm enc (b η) r2) : Sm enc (dIf q a b η) (if c then r1 else r2) := by
  have h' : q η = .ok c := hq
  rw [ev_if, h']
  cases c with
  | true => exact h1
  | false => exact h2
theorem u_ifP {q : M Bool} {c : Bool} {x y : β} (hq : Sm id (q η) (.ok c)) (h1 : Sm enc (a η) (.ok x)) (h2 : Sm enc (b η) (.ok y)) : Sm enc (dIf q a b η) (.ok (if c then x else y)) := by
  have z := u_if hq h1 h2
  cases c <;> exact z
theorem u_ifE {q : M Bool} {r : Res Bool} {r1 r2 : Res β} (hq : Sm id (q η) r) (h1 : Sm enc (a η) r1) (h2 : Sm enc (b η) r2) : Sm enc (dIf q a b η) (r.bind fun c => if c then r1 else r2) := by
  rw [ev_if]
  refine bE hq fun c => ?_
  cases c with
  | true => exact h1
  | false => exact h2
theorem u_chain {r1 r2 : Res Bool} {x : β} {z : β} (ha : Sm enc (a η) (.ok x)) {y : γ} (hb : Sm enc (b η) (.ok y)) (h1 : Sm enc (f (enc x) (enc y)) r1) (h2 : Sm enc ((c η).bind fun z => g (enc y) z) r2) : Sm enc (dChain f g a b c η) (rand r1 r2) := by
  have ha' : a η = .ok (enc x) := ha
  have hb' : b η = .ok (enc y) := hb
  rw [ev_chain, ha', ev_bind, hb', ev_bind]
  unfold rand
  refine bE h1 fun k => ?_
  show Sm enc ((toB (.bl k)).bind fun k => if k then (c η).bind fun z => g (enc y) z else .ok (.bl false)) (if k then r2 else .ok false)
  cases k with
  | true => exact h2
  | false => exact rfl
theorem u_chainP {c1 c2 : Bool} {x : β} (ha : Sm enc (a η) (.ok x)) {y : γ} (hb : Sm enc (b η) (.ok y)) (h1 : Sm enc (f (enc x) (enc y)) (.ok c1)) (h2 : Sm enc ((c η).bind fun z => g (enc y) z) (.ok c2)) : Sm enc (dChain f g a b c η) (.ok (c1 && c2)) := by
  have z := u_chain (z := x) ha hb h1 h2
  cases c1 <;> exact z
theorem u_chainB {r1 r2 : Res Bool} {x : β} (ha : Sm enc (a η) (.ok x)) {y : γ} (hb : Sm enc (b η) (.ok y)) (h1 : Sm enc (f (enc x) (enc y)) r1) (h2 : Sm enc ((c η).bind fun z => g (enc y) z) r2) : Sm enc (dChain f g a b c η) (rand r1 r2) := u_chain (z := x) ha hb h1 h2
end
/-! leaves -/
section
variable {α β γ : Type} [Enc α] [Enc β] [Enc γ] {x y : Int} {xs ys : List α}
theorem l_add : Sm enc (opAdd (enc x) (enc y)) (.ok (x + y)) := rfl
theorem l_addI : Sm enc (opAddI (enc x) (enc y)) (.ok (x + y)) := rfl
theorem l_sub : Sm enc (opSub (enc x) (enc y)) (.ok (x - y)) := rfl
theorem l_neg : Sm enc (opNeg (enc x)) (.ok (-x)) := rfl
theorem l_inv : Sm enc (opInv (enc x)) (.ok (Builtin.bitNot x)) := rfl
theorem l_bitAnd : Sm enc (opAnd (enc x) (enc y)) (.ok (Builtin.bitAnd x y)) := rfl
theorem l_bitOr : Sm enc (opOr (enc x) (enc y)) (.ok (Builtin.bitOr x y)) := rfl
theorem l_bitXor : Sm enc (opXor (enc x) (enc y)) (.ok (Builtin.bitXor x y)) := rfl
theorem l_mul : Sm enc (opMul (enc x) (enc y)) (imul x y) := by
  by_cases h : mulOk x y = true
  · show Sm enc (opMul (.int x) (.int y)) (imul x y)
    rw [ev_mul h]
    unfold imul
    rw [if_pos h]; exact rfl
  · unfold imul
    rw [if_neg h]; exact trivial
theorem l_div : Sm enc (opDiv (enc x) (enc y)) (idiv x y) := by
  by_cases h : divOk x y = true
  · show Sm enc (opDiv (.int x) (.int y)) (idiv x y)
    rw [ev_div h]
    unfold idiv
    rw [if_pos h]; exact rfl
  · unfold idiv
    rw [if_neg h]; exact trivial
theorem l_mod : Sm enc (opMod (enc x) (enc y)) (imod x y) := by
  by_cases h : 0 < y
  · show Sm enc (opMod (.int x) (.int y)) (imod x y)
    rw [ev_mod h]
    unfold imod
    rw [if_pos h]; exact rfl
  · unfold imod
    rw [if_neg h]; exact trivial
theorem l_pow : Sm enc (opPow (enc x) (enc y)) (ipow x y) := by
  by_cases h : powOk x y = true
  · show Sm enc (opPow (.int x) (.int y)) (ipow x y)
    rw [ev_pow h]
    unfold ipow
    rw [if_pos h]; exact rfl
  · unfold ipow
    rw [if_neg h]; exact trivial
theorem l_shl : Sm enc (opShl (enc x) (enc y)) (ishl x y) := by
  by_cases h : shlOk x y = true
  · show Sm enc (opShl (.int x) (.int y)) (ishl x y)
    rw [ev_shl h]
    unfold ishl
    rw [if_pos h]; exact rfl
  · unfold ishl
    rw [if_neg h]; exact trivial
theorem l_shr : Sm enc (opShr (enc x) (enc y)) (ishr x y) := by
  by_cases h : 0 ≤ y
  · show Sm enc (opShr (.int x) (.int y)) (ishr x y)
    rw [ev_shr h]
    unfold ishr
    rw [if_pos h]; exact rfl
  · unfold ishr
    rw [if_neg h]; exact trivial
theorem l_lt : Sm enc (opLt (enc x) (enc y)) (.ok (decide (x < y))) := rfl
theorem l_le : Sm enc (opLe (enc x) (enc y)) (.ok (decide (x ≤ y))) := rfl
theorem l_gt : Sm enc (opGt (enc x) (enc y)) (.ok (decide (y < x))) := rfl
theorem l_ge : Sm enc (opGe (enc x) (enc y)) (.ok (decide (y ≤ x))) := rfl
theorem l_isB {u v : Bool} : Sm enc (opIsB (enc u) (enc v)) (.ok (decide (u = v))) := rfl
theorem l_isNotB {u v : Bool} : Sm enc (opIsNotB (enc u) (enc v)) (.ok (!decide (u = v))) := rfl
theorem l_isNone {o : Option Int} : Sm enc (opIsNone (enc o)) (.ok o.isNone) := by cases o <;> rfl
theorem l_abs : Sm enc (fAbs [enc x]) (.ok (iabs x)) := rfl
theorem l_int : Sm enc (fInt [enc x]) (.ok x) := rfl
theorem l_intB {u : Bool} : Sm enc (fInt [enc u]) (.ok (b2i u)) := rfl
theorem l_max2 : Sm enc (fMax2 [enc x, enc y]) (.ok (imax2 x y)) := rfl
theorem l_min2 : Sm enc (fMin2 [enc x, enc y]) (.ok (imin2 x y)) := rfl
theorem l_len : Sm enc (fLen [enc xs]) (.ok (ilen xs)) := by
  show Sm enc (fLen [.lst (xs.map enc)]) _
  unfold fLen
  show Res.ok (D.int ((xs.map enc).length : Nat)) = .ok (.int (xs.length : Nat))
  rw [List.length_map]
theorem l_lenT {xs : Tup α} : Sm enc (fLen [enc xs]) (.ok (ilen xs.items)) := by
  show Sm enc (fLen [.tup (xs.items.map enc)]) _
  unfold fLen
  show Res.ok (D.int ((xs.items.map enc).length : Nat)) = .ok (.int (xs.items.length : Nat))
  rw [List.length_map]
theorem l_list : Sm enc (fList [enc xs]) (.ok xs) := rfl
theorem l_listT {xs : Tup α} : Sm enc (fList [enc xs]) (.ok xs.items) := rfl
theorem l_tuple : Sm enc (fTuple [enc xs]) (.ok (Tup.mk xs)) := rfl
theorem l_tupleT {xs : Tup α} : Sm enc (fTuple [enc xs]) (.ok xs) := rfl
theorem l_sum {xs : List Int} : Sm enc (fSum [enc xs]) (.ok xs.sum) := sum_ints xs
theorem l_max {xs : List Int} : Sm enc (fMax [enc xs]) (imaxL xs) := by
  unfold imaxL
  cases xs with
  | nil => exact trivial
  | cons a r => exact max_ints a r
theorem l_min {xs : List Int} : Sm enc (fMin [enc xs]) (iminL xs) := by
  unfold iminL
  cases xs with
  | nil => exact trivial
  | cons a r =>
    show (match ints? ((a :: r).map D.int) with | some (a :: r) => Res.ok (D.int (minL (a :: r))) | _ => .stuck) = _
    rw [ints_of]; exact rfl
theorem l_cat : Sm enc (opAdd (enc xs) (enc ys)) (lcat xs ys) := by
  show Sm enc (opAdd (.lst (xs.map enc)) (.lst (ys.map enc))) _
  unfold opAdd lcat
  simp only [List.length_map]
  split
  · show Res.ok (D.lst (xs.map enc ++ ys.map enc)) = .ok (.lst ((xs ++ ys).map enc))
    rw [List.map_append]
  · exact trivial
theorem l_rep {k : Int} : Sm enc (opMul (enc xs) (enc k)) (lrep xs k) := by
  show Sm enc (opMul (.lst (xs.map enc)) (.int k)) _
  unfold opMul lrep
  simp only [List.length_map]
  split
  · show Res.ok (D.lst (List.replicate k.toNat (xs.map enc)).flatten) = .ok (.lst ((List.replicate k.toNat xs).flatten.map enc))
    rw [List.map_flatten, List.map_replicate]
  · exact trivial
theorem l_ix : Sm enc (opIx (enc xs) (enc x)) (ix xs x) := by
  show Sm enc (opIx (.lst (xs.map enc)) (.int x)) _
  unfold opIx ix atD atL
  simp only [List.length_map]
  cases h : ixOf xs.length x with
  | none => exact trivial
  | some j =>
    simp only [Option.bind_some, List.getElem?_map]
    cases xs[j]? with
    | none => exact trivial
    | some z => exact rfl
theorem l_ixTup {xs : Tup α} : Sm enc (opIx (enc xs) (enc x)) (ix xs.items x) := by
  show Sm enc (opIx (.tup (xs.items.map enc)) (.int x)) _
  unfold opIx ix atD atL
  simp only [List.length_map]
  cases h : ixOf xs.items.length x with
  | none => exact trivial
  | some j =>
    simp only [Option.bind_some, List.getElem?_map]
    cases xs.items[j]? with
    | none => exact trivial
    | some z => exact rfl
theorem l_ix20 {p : α × β} : Sm enc (opIx (enc p) (enc (0 : Int))) (.ok p.1) := ev_ixT0
theorem l_ix21 {p : α × β} : Sm enc (opIx (enc p) (enc (1 : Int))) (.ok p.2) := ev_ixT1
theorem l_ix30 {p : T3 α β γ} : Sm enc (opIx (enc p) (enc (0 : Int))) (.ok p.a) := ev_ixT0
theorem l_ix31 {p : T3 α β γ} : Sm enc (opIx (enc p) (enc (1 : Int))) (.ok p.b) := ev_ixT1
theorem l_ix32 {p : T3 α β γ} : Sm enc (opIx (enc p) (enc (2 : Int))) (.ok p.c) := ev_ixT2
theorem cut_map' {f : α → D} {lo hi : Option Int} : cutD (xs.map f) lo hi = (cutL xs lo hi).map f := by
  unfold cutD cutL
  rw [List.length_map, ← List.map_drop, ← List.map_take]
theorem l_slL {lo hi : Option Int} : Sm enc (opSlL (enc xs) lo hi) (.ok (cutL xs lo hi)) := by
  show Res.ok (D.lst (cutD (xs.map enc) lo hi)) = .ok (.lst ((cutL xs lo hi).map enc))
  rw [cut_map']
theorem l_sl {lo hi : Option Int} : Sm enc (opSl (enc xs) lo hi) (.ok (cutL xs lo hi)) := by
  show Res.ok (D.lst (cutD (xs.map enc) lo hi)) = .ok (.lst ((cutL xs lo hi).map enc))
  rw [cut_map']
theorem l_lst0 : Sm enc (if ([] : List D).length ≤ line then Res.ok (.lst []) else .stuck) (.ok ([] : List α)) := rfl
theorem l_lst {ds : List D} (h : ds = xs.map enc) (hl' : Nat.ble ds.length 100000 = true) : Sm enc (if ds.length ≤ line then Res.ok (.lst ds) else .stuck) (.ok xs) := by
  have hl : ds.length ≤ 100000 := Nat.le_of_ble_eq_true hl'
  rw [if_pos (le_line hl), h]; exact rfl
theorem l_tup {ds : List D} {p : α} (h : D.tup ds = enc p) (hl' : Nat.ble ds.length 100000 = true) : Sm enc (if ds.length ≤ line then Res.ok (.tup ds) else .stuck) (.ok p) := by
  have hl : ds.length ≤ 100000 := Nat.le_of_ble_eq_true hl'
  rw [if_pos (le_line hl), h]; exact rfl
theorem l_coe {d : Res D} {p : α} (h : Sm enc d (.ok p)) : Sm enc d (.ok (enc p : D)) := h
theorem l_coeE {d : Res D} {r : Res α} (h : Sm enc d r) : Sm enc d (r.bind fun p => .ok (enc p : D)) := by
  cases r <;> exact h
theorem l_some {d : Res D} {p : α} (h : Sm enc d (.ok p)) : Sm enc d (.ok (some p)) := h
theorem l_someE {d : Res D} {r : Res α} (h : Sm enc d r) : Sm enc d (r.bind fun p => .ok (some p)) := by
  cases r <;> exact h
theorem l_isNoneO {o : Option α} (h : ∀ x : α, (enc x : D).isNon = false) : Sm enc (opIsNone (enc o)) (.ok o.isNone) := by
  cases o with
  | none => exact rfl
  | some x => show Res.ok (D.bl (enc x : D).isNon) = _; rw [h x]; exact rfl
theorem l_notNoneO {o : Option α} (h : ∀ x : α, (enc x : D).isNon = false) : Sm enc (opNotNone (enc o)) (.ok o.isSome) := by
  cases o with
  | none => exact rfl
  | some x => show Res.ok (D.bl (!(enc x : D).isNon)) = _; rw [h x]; exact rfl
/-- what a type says of isinstance -/
theorem l_isTy {T : String} {d : D} {c : Bool} (h : isTy T d = some c) : Sm enc (opIsTy T d) (.ok c) := by
  unfold opIsTy
  rw [h]; exact rfl
def isTyD (T : String) (d : D) : Res Bool := match isTy T d with
  | some b => .ok b
  | none => .stuck
theorem l_isTyD {T : String} {d : D} : Sm enc (opIsTy T d) (isTyD T d) := by
  unfold opIsTy isTyD
  cases isTy T d with
  | none => exact trivial
  | some b => exact rfl
theorem l_isTyI {T : String} {c : Bool} (h : isTy T (.int 0) = some c) : Sm enc (opIsTy T (enc x)) (.ok c) := l_isTy h
theorem l_isTyL {T : String} {c : Bool} (h : isTy T (.lst []) = some c) : Sm enc (opIsTy T (enc xs)) (.ok c) := l_isTy h
def isEr (e c : Er) : Res Bool := if e.own && c.own then .ok (e.sub c) else .stuck
theorem l_isEr {e c : Er} {η : Env} : Sm enc (dIsEr e c η) (isEr e c) := by
  unfold dIsEr isEr
  split <;> first | exact rfl | exact trivial
end
/-! equality -/
class EqD (α : Type) [Enc α] where
  dep : Nat
  ok : ∀ x : α, (enc x).plain = true ∧ PyData.canLay0 (enc x).toPD = true ∧ PyData.depth (enc x).toPD ≤ dep
  eqv : ∀ x y : α, D.eqv (enc x) (enc y) = true ↔ x = y
instance : EqD Int := ⟨0, fun x => ⟨rfl, rfl, Nat.le_refl _⟩, fun x y => by
  show PyData.eqv (.int x) (.int y) = true ↔ x = y
  unfold PyData.eqv
  simp⟩
instance : EqD Bool := ⟨0, fun x => ⟨rfl, rfl, Nat.le_refl _⟩, fun x y => by
  cases x <;> cases y <;> decide⟩
instance : EqD Unit := ⟨0, fun x => ⟨rfl, rfl, Nat.le_refl _⟩, fun x y => by
  cases x; cases y; decide⟩
section
variable {α β γ : Type} [Enc α] [Enc β] [Enc γ] [EqD α] [EqD β] [EqD γ]
theorem eqs_ok : ∀ xs : List α, D.plains (xs.map enc) = true ∧ PyData.canLayAll0 (D.toPDs (xs.map enc)) = true ∧ PyData.depthAll (D.toPDs (xs.map enc)) ≤ EqD.dep α
  | [] => ⟨rfl, rfl, Nat.zero_le _⟩
  | x :: xs => by
    obtain ⟨a1, a2, a3⟩ := EqD.ok x
    obtain ⟨b1, b2, b3⟩ := eqs_ok xs
    rw [List.map_cons]
    unfold D.plains D.toPDs PyData.canLayAll0 PyData.depthAll
    rw [a1, a2, b1, b2]
    refine ⟨rfl, rfl, ?_⟩
    exact Nat.max_le.mpr ⟨a3, b3⟩
theorem eqs_eqv : ∀ xs ys : List α, PyData.eqvAll (D.toPDs (xs.map enc)) (D.toPDs (ys.map enc)) = true ↔ xs = ys
  | [], [] => by simp [D.toPDs, PyData.eqvAll]
  | [], y :: ys => by simp [D.toPDs, PyData.eqvAll]
  | x :: xs, [] => by simp [D.toPDs, PyData.eqvAll]
  | x :: xs, y :: ys => by
    have z1 := EqD.eqv x y
    have z2 := eqs_eqv xs ys
    unfold D.eqv at z1
    simp only [List.map_cons, D.toPDs, PyData.eqvAll, Bool.and_eq_true, z1, z2, List.cons.injEq]
instance : EqD (List α) := ⟨EqD.dep α + 1, fun xs => by
  obtain ⟨h1, h2, h3⟩ := eqs_ok xs
  refine ⟨h1, h2, ?_⟩
  show PyData.depth (.list (D.toPDs (xs.map enc))) ≤ _
  unfold PyData.depth
  omega, fun xs ys => by
  show PyData.eqv (.list (D.toPDs (xs.map enc))) (.list (D.toPDs (ys.map enc))) = true ↔ _
  unfold PyData.eqv
  exact eqs_eqv xs ys⟩
instance : EqD (Tup α) := ⟨EqD.dep α + 1, fun xs => by
  obtain ⟨h1, h2, h3⟩ := eqs_ok xs.items
  refine ⟨h1, h2, ?_⟩
  show PyData.depth (.tuple (D.toPDs (xs.items.map enc))) ≤ _
  unfold PyData.depth
  omega, fun xs ys => by
  show PyData.eqv (.tuple (D.toPDs (xs.items.map enc))) (.tuple (D.toPDs (ys.items.map enc))) = true ↔ _
  unfold PyData.eqv
  rw [eqs_eqv]
  cases xs; cases ys; simp⟩
instance : EqD (α × β) := ⟨max (EqD.dep α) (EqD.dep β) + 1, fun p => by
  obtain ⟨a1, a2, a3⟩ := EqD.ok p.1
  obtain ⟨b1, b2, b3⟩ := EqD.ok p.2
  refine ⟨?_, ?_, ?_⟩
  · show (D.plain (enc p.1) && (D.plain (enc p.2) && true)) = true
    rw [a1, b1]; rfl
  · show (PyData.canLay0 (enc p.1).toPD && (PyData.canLay0 (enc p.2).toPD && true)) = true
    rw [a2, b2]; rfl
  · show PyData.depth (.tuple [(enc p.1).toPD, (enc p.2).toPD]) ≤ _
    simp only [PyData.depth, PyData.depthAll]
    omega, fun p q => by
  show PyData.eqv (.tuple [(enc p.1).toPD, (enc p.2).toPD]) (.tuple [(enc q.1).toPD, (enc q.2).toPD]) = true ↔ _
  have z1 := EqD.eqv p.1 q.1
  have z2 := EqD.eqv p.2 q.2
  unfold D.eqv at z1 z2
  simp only [PyData.eqv, PyData.eqvAll, Bool.and_eq_true, z1, z2, Prod.ext_iff, and_true]⟩
instance : EqD (T3 α β γ) := ⟨max (EqD.dep α) (max (EqD.dep β) (EqD.dep γ)) + 1, fun p => by
  obtain ⟨a1, a2, a3⟩ := EqD.ok p.a
  obtain ⟨b1, b2, b3⟩ := EqD.ok p.b
  obtain ⟨c1, c2, c3⟩ := EqD.ok p.c
  refine ⟨?_, ?_, ?_⟩
  · show (D.plain (enc p.a) && (D.plain (enc p.b) && (D.plain (enc p.c) && true))) = true
    rw [a1, b1, c1]; rfl
  · show (PyData.canLay0 (enc p.a).toPD && (PyData.canLay0 (enc p.b).toPD && (PyData.canLay0 (enc p.c).toPD && true))) = true
    rw [a2, b2, c2]; rfl
  · show PyData.depth (.tuple [(enc p.a).toPD, (enc p.b).toPD, (enc p.c).toPD]) ≤ _
    simp only [PyData.depth, PyData.depthAll]
    omega, fun p q => by
  show PyData.eqv (.tuple [(enc p.a).toPD, (enc p.b).toPD, (enc p.c).toPD]) (.tuple [(enc q.a).toPD, (enc q.b).toPD, (enc q.c).toPD]) = true ↔ _
  have z1 := EqD.eqv p.a q.a
  have z2 := EqD.eqv p.b q.b
  have z3 := EqD.eqv p.c q.c
  unfold D.eqv at z1 z2 z3
  cases p; cases q
  simp only [PyData.eqv, PyData.eqvAll, Bool.and_eq_true, z1, z2, z3, and_true, T3.mk.injEq]⟩
theorem eqOk_of (x : α) (h : EqD.dep α ≤ 64) : (enc x).eqOk = true := by
  obtain ⟨a1, a2, a3⟩ := EqD.ok x
  unfold D.eqOk SeqAt.shaped
  rw [a1, a2]
  simp only [Bool.true_and]
  exact decide_eq_true (by omega)
open Classical in
theorem l_eq {x y : α} [DecidableEq α] (h : EqD.dep α ≤ 64 := by decide) : Sm enc (opEq (enc x) (enc y)) (.ok (decide (x = y))) := by
  unfold opEq
  rw [eqOk_of x h, eqOk_of y h]
  show Res.ok (D.bl (D.eqv (enc x) (enc y))) = .ok (.bl (decide (x = y)))
  congr 2
  rw [Bool.eq_iff_iff, decide_eq_true_iff]
  exact EqD.eqv x y
theorem l_ne {x y : α} [DecidableEq α] (h : EqD.dep α ≤ 64 := by decide) : Sm enc (opNe (enc x) (enc y)) (.ok (!decide (x = y))) := by
  unfold opNe
  rw [eqOk_of x h, eqOk_of y h]
  show Res.ok (D.bl (!D.eqv (enc x) (enc y))) = .ok (.bl (!decide (x = y)))
  congr 3
  rw [Bool.eq_iff_iff, decide_eq_true_iff]
  exact EqD.eqv x y
theorem eq_any {x : α} [DecidableEq α] : ∀ xs : List α, ((xs.map enc).any fun y => D.eqv y (enc x)) = decide (x ∈ xs)
  | [] => by simp
  | y :: ys => by
    rw [List.map_cons, List.any_cons, eq_any ys]
    have z := EqD.eqv y x
    rw [Bool.eq_iff_iff]
    simp only [Bool.or_eq_true, z, decide_eq_true_iff, List.mem_cons]
    constructor <;> rintro (h | h) <;> first | exact .inl h.symm | exact .inr h
theorem l_in {x : α} {xs : List α} [DecidableEq α] (h : EqD.dep α + 1 ≤ 64 := by decide) : Sm enc (opIn (enc x) (enc xs)) (.ok (decide (x ∈ xs))) := by
  have e := eqOk_of xs (show EqD.dep (List α) ≤ 64 from h)
  show Sm enc (if (enc x).eqOk && (enc xs).eqOk then .ok (.bl ((xs.map enc).any fun y => D.eqv y (enc x))) else .stuck) _
  rw [eqOk_of x (by omega), e, eq_any]
  exact rfl
theorem l_notIn {x : α} {xs : List α} [DecidableEq α] (h : EqD.dep α + 1 ≤ 64 := by decide) : Sm enc (opNotIn (enc x) (enc xs)) (.ok (!decide (x ∈ xs))) := by
  have e := eqOk_of xs (show EqD.dep (List α) ≤ 64 from h)
  show Sm enc (if (enc x).eqOk && (enc xs).eqOk then .ok (.bl (!(xs.map enc).any fun y => D.eqv y (enc x))) else .stuck) _
  rw [eqOk_of x (by omega), e, eq_any]
  exact rfl
end
def dB (r : Res D) : Res Bool := r.bind toB
theorem l_dB {r : Res D} (h : ∀ x, r = .ok x → ∃ b, x = .bl b) : Sm enc r (dB r) := by
  cases r with
  | ok x =>
    obtain ⟨b, rfl⟩ := h x rfl
    exact rfl
  | exc e => exact rfl
  | stuck => exact trivial
theorem l_eqD {x y : D} : Sm enc (opEq x y) (dB (opEq x y)) := l_dB fun z h => by
  unfold opEq at h
  split at h
  · exact ⟨_, (Res.ok.inj h).symm⟩
  · cases h
theorem l_neD {x y : D} : Sm enc (opNe x y) (dB (opNe x y)) := l_dB fun z h => by
  unfold opNe at h
  split at h
  · exact ⟨_, (Res.ok.inj h).symm⟩
  · cases h
theorem l_cmpD {p : Int → Int → Bool} {x y : D} : Sm enc (cmpI p x y) (dB (cmpI p x y)) := l_dB fun z h => by
  unfold cmpI at h
  split at h
  · exact ⟨_, (Res.ok.inj h).symm⟩
  · cases h
theorem l_D {r : Res D} : Sm enc r r := Sm.self
theorem l_isNoneD {x : D} : Sm enc (opIsNone x) (.ok x.isNon) := rfl
theorem l_notNoneD {x : D} : Sm enc (opNotNone x) (.ok (!x.isNon)) := rfl
/-! lists in slots -/
section
variable {α β γ δ : Type} [Enc α] [Enc β] [Enc γ] {η : Env} {L X : En} {k N : Nat} {a b : M D} {xs : List α}
theorem lstAt_has (h : Has η L) (e : lk L k = some (.lst ys)) : lstAt η k = .ok ys := by
  unfold lstAt
  rw [h k _ e]
theorem u_lenAt {xs : List α} (h : Has η L) (e : lk L k = some (enc xs)) : Sm enc (lenAt k η) (.ok (ilen xs)) := by
  have z := lstAt_has (ys := xs.map enc) h e
  rw [ev_lenAt, z]
  show Res.ok (D.int ((xs.map enc).length : Nat)) = .ok (.int (xs.length : Nat))
  rw [List.length_map]
theorem u_ixAt {xs : List α} {i : Int} (h : Has η L) (e : lk L k = some (enc xs)) (hb : Sm enc (b η) (.ok i)) : Sm enc (ixAt k b η) (ix xs i) := by
  have z := lstAt_has (ys := xs.map enc) h e
  have hb' : b η = .ok (.int i) := hb
  unfold ixAt
  rw [z, ev_bind, hb', ev_bind]
  exact l_ix
theorem u_ixAtE {xs : List α} {r : Res Int} (h : Has η L) (e : lk L k = some (enc xs)) (hb : Sm enc (b η) r) : Sm enc (ixAt k b η) (r.bind fun i => ix xs i) := by
  cases r with
  | ok i => exact u_ixAt h e hb
  | exc er =>
    have z := lstAt_has (ys := xs.map enc) h e
    have hb' : b η = .exc er := hb
    unfold ixAt
    rw [z, ev_bind, hb']
    exact rfl
  | stuck => exact trivial
variable {β' σ τ ρ : Type} [Enc ρ] {Lb : β' → En} {Ls : σ → En} {ms : List (Env → Fl)}
theorem k_app {xs : List α} {r : Res α} {t : List α → TF β' σ ρ} (hk : k < N) (hX : Sub L X) (e : lk L k = some (enc xs)) (ha : ∀ η, η.length = N → Has η L → Sm enc (a η) r) (h : ∀ ys, SimK N X Lb Ls ms ((k, enc ys) :: L) (t ys)) : SimK N X Lb Ls (sApp k a :: ms) L (onE (r.bind fun x => lapp xs x) t) := fun η hl hη => by
  have z := lstAt_has (ys := xs.map enc) hη e
  show Post N X Lb Ls (match onRes (lstAt η k) η (fun xs => onRes (a η) η fun d => if xs.length < line then .nx (η.set k (some (.lst (xs ++ [d])))) else .stuck) with | .nx η' => runK ms η' | r => r) _
  rw [z, ev_on]
  have q := ha η hl hη
  cases r with
  | ok x =>
    have q' : a η = .ok (enc x) := q
    rw [q', ev_on]
    show Post N X Lb Ls _ (onE (lapp xs x) t)
    unfold lapp
    rw [List.length_map]
    by_cases hc : xs.length < line
    · rw [if_pos hc, if_pos hc]
      have y := h (xs ++ [x]) (η.set k (some (enc (xs ++ [x])))) (by rw [List.length_set]; exact hl) (hη.set k (by omega))
      have e2 : (enc (xs ++ [x]) : D) = .lst (xs.map enc ++ [enc x]) := by
        show D.lst ((xs ++ [x]).map enc) = _
        rw [List.map_append]; rfl
      rw [e2] at y
      exact y
    · rw [if_neg hc, if_neg hc]
      exact trivial
  | exc er =>
    have q' : a η = .exc er := q
    rw [q']
    exact ⟨η, rfl, hl, hX η hη⟩
  | stuck => exact trivial
theorem k_appP {xs : List α} {x : α} {t : List α → TF β' σ ρ} (hk : k < N) (hX : Sub L X) (e : lk L k = some (enc xs)) (ha : ∀ η, η.length = N → Has η L → Sm enc (a η) (.ok x)) (h : ∀ ys, SimK N X Lb Ls ms ((k, enc ys) :: L) (t ys)) : SimK N X Lb Ls (sApp k a :: ms) L (onE (lapp xs x) t) := k_app (r := .ok x) hk hX e ha h
/-- xs[i] = e -/
theorem k_set {xs : List α} {x : α} {i : Int} {t : List α → TF β' σ ρ} (hk : k < N) (hX : Sub L X) (e : lk L k = some (enc xs)) (ha : ∀ η, η.length = N → Has η L → Sm enc (a η) (.ok x)) (hb : ∀ η, η.length = N → Has η L → Sm enc (b η) (.ok i)) (h : ∀ ys, SimK N X Lb Ls ms ((k, enc ys) :: L) (t ys)) : SimK N X Lb Ls (sSet k b a :: ms) L (onE (setI xs i x) t) := fun η hl hη => by
  have z := lstAt_has (ys := xs.map enc) hη e
  have q1 : a η = .ok (enc x) := ha η hl hη
  have q2 : b η = .ok (.int i) := hb η hl hη
  have q3 : sSet k b a η = match setD (xs.map enc) i (enc x) with | some ys => .nx (η.set k (some (.lst ys))) | none => .stuck := by
    rw [ev_set, q1, ev_on, z, ev_on, q2, ev_on]
    try rfl
  show Post N X Lb Ls (match sSet k b a η with | .nx η' => runK ms η' | r => r) _
  rw [q3]
  unfold setI setD
  rw [List.length_map]
  cases ixOf xs.length i with
  | none => exact trivial
  | some j =>
    have y := h (xs.set j x) (η.set k (some (enc (xs.set j x)))) (by rw [List.length_set]; exact hl) (hη.set k (by omega))
    have e2 : (enc (xs.set j x) : D) = .lst ((xs.map enc).set j (enc x)) := by
      show D.lst ((xs.set j x).map enc) = _
      rw [List.map_set]
    rw [e2] at y
    exact y
theorem k_setE {xs : List α} {r : Res (α × Int)} {t : List α → TF β' σ ρ} (hk : k < N) (hX : Sub L X) (e : lk L k = some (enc xs)) (ha : ∀ η, η.length = N → Has η L → Sm (fun p : α × Int => (enc p.1, D.int p.2)) ((a η).bind fun x => (b η).bind fun y => match y with | .int i => .ok (x, D.int i) | _ => .stuck) r) (h : ∀ ys, SimK N X Lb Ls ms ((k, enc ys) :: L) (t ys)) : SimK N X Lb Ls (sSet k b a :: ms) L (onE (r.bind fun p => setI xs p.2 p.1) t) := fun η hl hη => by
  have z := lstAt_has (ys := xs.map enc) hη e
  have q := ha η hl hη
  show Post N X Lb Ls (match sSet k b a η with | .nx η' => runK ms η' | r => r) _
  rw [ev_set, z]
  cases r with
  | stuck => exact trivial
  | exc er =>
    have q' : ((a η).bind fun x => (b η).bind fun y => match y with | .int i => Res.ok (x, D.int i) | _ => .stuck) = .exc er := q
    cases h1 : a η with
    | exc e1 => rw [h1] at q'; cases q'; exact ⟨η, rfl, hl, hX η hη⟩
    | stuck => rw [h1] at q'; cases q'
    | ok x =>
      rw [h1] at q'
      rw [ev_on, ev_on]
      cases h2 : b η with
      | exc e1 => rw [h2] at q'; cases q'; exact ⟨η, rfl, hl, hX η hη⟩
      | stuck => rw [h2] at q'; cases q'
      | ok y => rw [h2] at q'; cases y <;> cases q'
  | ok p =>
    have q' : ((a η).bind fun x => (b η).bind fun y => match y with | .int i => Res.ok (x, D.int i) | _ => .stuck) = .ok (enc p.1, D.int p.2) := q
    cases h1 : a η with
    | exc e1 => rw [h1] at q'; cases q'
    | stuck => rw [h1] at q'; cases q'
    | ok x =>
      rw [h1] at q'
      cases h2 : b η with
      | exc e1 => rw [h2] at q'; cases q'
      | stuck => rw [h2] at q'; cases q'
      | ok y =>
        rw [h2] at q'
        cases y <;> first | (cases q'; done) | skip
        rename_i i
        have q2 : Res.ok (x, D.int i) = .ok (enc p.1, D.int p.2) := q'
        have q3 := Res.ok.inj q2
        have q4 : x = enc p.1 := congrArg Prod.fst q3
        have q5 : D.int i = D.int p.2 := congrArg Prod.snd q3
        cases q5
        subst q4
        have w := k_set (N := N) (X := X) (L := L) (Lb := Lb) (Ls := Ls) (ms := ms) (a := fun _ => .ok (enc p.1)) (b := fun _ => .ok (.int p.2)) (xs := xs) (x := p.1) (i := p.2) hk hX e (fun _ _ _ => rfl) (fun _ _ _ => rfl) h η hl hη
        have w' : Post N X Lb Ls (match sSet k (fun _ => .ok (.int p.2)) (fun _ => .ok (enc p.1)) η with | .nx η' => runK ms η' | r => r) (onE (setI xs p.2 p.1) t) := w
        rw [ev_set, z] at w'
        exact w'
end
/-! a list taken apart -/
def un2 {α : Type} : List α → Res (α × α)
  | [a, b] => .ok (a, b)
  | _ => .stuck
def un3 {α : Type} : List α → Res (T3 α α α)
  | [a, b, c] => .ok ⟨a, b, c⟩
  | _ => .stuck
def un4 {α : Type} : List α → Res (T4 α α α α)
  | [a, b, c, d] => .ok ⟨a, b, c, d⟩
  | _ => .stuck
def un5 {α : Type} : List α → Res (T5 α α α α α)
  | [a, b, c, d, e] => .ok ⟨a, b, c, d, e⟩
  | _ => .stuck
section
variable {α : Type} [Enc α] {d : Res D} {r : Res (List α)}
theorem l_un2 (h : Sm enc d r) : Sm (fun p : α × α => .lst [enc p.1, enc p.2]) d (r.bind un2) := by
  rcases r with (_ | ⟨a, _ | ⟨b, _ | _⟩⟩) | er | _ <;> first | exact trivial | exact h
theorem l_un3 (h : Sm enc d r) : Sm (fun p : T3 α α α => .lst [enc p.a, enc p.b, enc p.c]) d (r.bind un3) := by
  rcases r with (_ | ⟨a, _ | ⟨b, _ | ⟨c, _ | _⟩⟩⟩) | er | _ <;> first | exact trivial | exact h
theorem l_un4 (h : Sm enc d r) : Sm (fun p : T4 α α α α => .lst [enc p.a, enc p.b, enc p.c, enc p.d]) d (r.bind un4) := by
  rcases r with (_ | ⟨a, _ | ⟨b, _ | ⟨c, _ | ⟨e, _ | _⟩⟩⟩⟩) | er | _ <;> first | exact trivial | exact h
theorem l_un5 (h : Sm enc d r) : Sm (fun p : T5 α α α α α => .lst [enc p.a, enc p.b, enc p.c, enc p.d, enc p.e]) d (r.bind un5) := by
  rcases r with (_ | ⟨a, _ | ⟨b, _ | ⟨c, _ | ⟨e, _ | ⟨f, _ | _⟩⟩⟩⟩⟩) | er | _ <;> first | exact trivial | exact h
end
/-! ### what is walked -/
section
variable {α β : Type} [Enc α] [Enc β] {η : Env} {a b c : M D} {xs : List α} {r : Res (List α)}
theorem i_seq {e : β → List D} {t : Res β} (h : Sm e ((a η).bind items) t) : Sm e (iSeq a η) t := h
theorem i_seqP (h : Sm enc (a η) (.ok xs)) : Sm (List.map enc) (iSeq a η) (.ok xs) := by
  have h' : a η = .ok (.lst (xs.map enc)) := h
  rw [ev_iSeq, h']; exact rfl
theorem i_seqE (h : Sm enc (a η) r) : Sm (List.map enc) (iSeq a η) r := by
  cases r with
  | ok x => exact i_seqP h
  | exc er => have h' : a η = .exc er := h; rw [ev_iSeq, h']; exact rfl
  | stuck => exact trivial
theorem i_seqT {xs : Tup α} (h : Sm enc (a η) (.ok xs)) : Sm (List.map enc) (iSeq a η) (.ok xs.items) := by
  have h' : a η = .ok (.tup (xs.items.map enc)) := h
  rw [ev_iSeq, h']; exact rfl
def itemsD (d : D) : Res (List D) := items d
theorem i_seqD {r : Res D} (h : Sm enc (a η) r) : Sm (List.map (enc : D → D)) (iSeq a η) (r.bind itemsD) := by
  cases r with
  | ok x =>
    have h' : a η = .ok x := h
    rw [ev_iSeq, h', ev_bind]
    show Sm (List.map (enc : D → D)) (items x) (items x)
    cases items x with
    | ok ys => show Res.ok ys = .ok (ys.map fun d => d); rw [List.map_id']
    | exc e => exact rfl
    | stuck => exact trivial
  | exc er => have h' : a η = .exc er := h; rw [ev_iSeq, h']; exact rfl
  | stuck => exact trivial
/-- a tuple that is written, all items of one type -/
theorem i_seqW {ds : List D} (h : a η = .ok (.tup ds)) (e : ds = xs.map enc) : Sm (List.map enc) (iSeq a η) (.ok xs) := by
  rw [ev_iSeq, h, e]; exact rfl
theorem u_tupI {β : Type} {e : β → List D} {t : Res β} {mas : M (List D)} (h : Sm e ((mas η).bind fun xs => (if xs.length ≤ line then Res.ok (D.tup xs) else .stuck).bind items) t) : Sm e ((dTup mas η).bind items) t := by
  have q : (dTup mas η).bind items = (mas η).bind fun xs => (if xs.length ≤ line then Res.ok (D.tup xs) else .stuck).bind items := by
    rw [ev_tup]
    cases mas η <;> rfl
  rw [q]; exact h
theorem i_tupW {ds : List D} (e : ds = xs.map enc) (hl' : Nat.ble ds.length 100000 = true) : Sm (List.map enc) ((if ds.length ≤ line then Res.ok (D.tup ds) else .stuck).bind items) (.ok xs) := by
  have hl : ds.length ≤ 100000 := Nat.le_of_ble_eq_true hl'
  rw [if_pos (le_line hl), e]; exact rfl
theorem rng_D {lo : Int} {n : Nat} : rangeD lo n = (rng lo n).map enc := by
  unfold rangeD rng
  rw [List.map_map]; rfl
theorem i_range1P {n : Int} (h : Sm enc (a η) (.ok n)) : Sm (List.map enc) (iRange1 a η) (irange n) := by
  have h' : a η = .ok (.int n) := h
  unfold iRange1
  rw [h', ev_bind]
  show Sm (List.map enc) (if -lim62 ≤ n ∧ n < lim62 then Res.ok (rangeD 0 n.toNat) else .stuck) (irange n)
  unfold irange
  split
  · rw [rng_D]; exact rfl
  · exact trivial
theorem i_range1E {r : Res Int} (h : Sm enc (a η) r) : Sm (List.map enc) (iRange1 a η) (r.bind irange) := by
  cases r with
  | ok x => exact i_range1P h
  | exc er => have h' : a η = .exc er := h; unfold iRange1; rw [h']; exact rfl
  | stuck => exact trivial
theorem i_range2P {m n : Int} (h : Sm enc (a η) (.ok m)) (g : Sm enc (b η) (.ok n)) : Sm (List.map enc) (iRange2 a b η) (irange2 m n) := by
  have h' : a η = .ok (.int m) := h
  have g' : b η = .ok (.int n) := g
  unfold iRange2
  rw [h', ev_bind, g', ev_bind]
  show Sm (List.map enc) (if (-lim62 ≤ m ∧ m < lim62) ∧ (-lim62 ≤ n ∧ n < lim62) then Res.ok (rangeD m (n - m).toNat) else .stuck) (irange2 m n)
  unfold irange2
  split
  · rw [rng_D]; exact rfl
  · exact trivial
theorem i_range2E {r s : Res Int} (h : Sm enc (a η) r) (g : Sm enc (b η) s) : Sm (List.map enc) (iRange2 a b η) (r.bind fun m => s.bind fun n => irange2 m n) := by
  cases r with
  | ok x =>
    cases s with
    | ok y => exact i_range2P h g
    | exc er =>
      have h' : a η = .ok (.int x) := h
      have g' : b η = .exc er := g
      unfold iRange2; rw [h', ev_bind, g']; exact rfl
    | stuck => exact trivial
  | exc er => have h' : a η = .exc er := h; unfold iRange2; rw [h']; exact rfl
  | stuck => exact trivial
theorem i_range3P {m n k : Int} (h : Sm enc (a η) (.ok m)) (g : Sm enc (b η) (.ok n)) (f : Sm enc (c η) (.ok k)) : Sm (List.map enc) (iRange3 a b c η) (irange3 m n k) := by
  have h' : a η = .ok (.int m) := h
  have g' : b η = .ok (.int n) := g
  have f' : c η = .ok (.int k) := f
  unfold iRange3
  rw [h', ev_bind, g', ev_bind, f', ev_bind]
  show Sm (List.map enc) (if rgOk m n k then Res.ok (rangeC m k (Builtin.Range.rangeSize m n k).toNat) else .stuck) (irange3 m n k)
  unfold irange3
  split
  · show Res.ok (rangeC m k _) = .ok ((rngC m k _).map enc)
    unfold rangeC rngC
    rw [List.map_map]; rfl
  · exact trivial
theorem enum_D : ∀ (k : Nat) (xs : List α), enumD k (xs.map enc) = (enumL k xs).map enc
  | _, [] => rfl
  | k, x :: xs => by
    show D.tup [.int (k : Int), enc x] :: enumD (k + 1) (xs.map enc) = _
    rw [enum_D (k + 1) xs]; rfl
theorem i_enumP (h : Sm enc (a η) (.ok xs)) : Sm (List.map enc) (iEnum a η) (.ok (enumL 0 xs)) := by
  have h' : a η = .ok (.lst (xs.map enc)) := h
  rw [ev_iEnum, h', ev_bind, ev_lstOf, ev_bind, enum_D]; exact rfl
theorem i_enumE (h : Sm enc (a η) r) : Sm (List.map enc) (iEnum a η) (r.bind fun xs => .ok (enumL 0 xs)) := by
  cases r with
  | ok x => exact i_enumP h
  | exc er => have h' : a η = .exc er := h; rw [ev_iEnum, h']; exact rfl
  | stuck => exact trivial
theorem zip_D : ∀ (xs : List α) (ys : List β), zipD (xs.map enc) (ys.map enc) = (xs.zip ys).map enc
  | [], ys => by cases ys <;> rfl
  | x :: xs, [] => rfl
  | x :: xs, y :: ys => by
    show D.tup [enc x, enc y] :: zipD (xs.map enc) (ys.map enc) = _
    rw [zip_D xs ys]; rfl
theorem i_zipP {ys : List β} (h : Sm enc (a η) (.ok xs)) (g : Sm enc (b η) (.ok ys)) : Sm (List.map enc) (iZip a b η) (.ok (xs.zip ys)) := by
  have h' : a η = .ok (.lst (xs.map enc)) := h
  have g' : b η = .ok (.lst (ys.map enc)) := g
  rw [ev_iZip, h', ev_bind, g', ev_bind, ev_lstOf, ev_bind, ev_lstOf, ev_bind, zip_D]; exact rfl
theorem i_zipE {s : Res (List β)} (h : Sm enc (a η) r) (g : Sm enc (b η) s) : Sm (List.map enc) (iZip a b η) (r.bind fun xs => s.bind fun ys => .ok (xs.zip ys)) := by
  cases r with
  | ok x =>
    cases s with
    | ok y => exact i_zipP h g
    | exc er =>
      have h' : a η = .ok (.lst (x.map enc)) := h
      have g' : b η = .exc er := g
      rw [ev_iZip, h', ev_bind, g']; exact rfl
    | stuck => exact trivial
  | exc er => have h' : a η = .exc er := h; rw [ev_iZip, h']; exact rfl
  | stuck => exact trivial
theorem i_revP (h : Sm enc (a η) (.ok xs)) : Sm (List.map enc) (iRev a η) (.ok xs.reverse) := by
  have h' : a η = .ok (.lst (xs.map enc)) := h
  rw [ev_iRev, h', ev_bind, ev_lstOf, ev_bind, ← List.map_reverse]; exact rfl
theorem i_revE (h : Sm enc (a η) r) : Sm (List.map enc) (iRev a η) (r.bind fun xs => .ok xs.reverse) := by
  cases r with
  | ok x => exact i_revP h
  | exc er => have h' : a η = .exc er := h; rw [ev_iRev, h']; exact rfl
  | stuck => exact trivial
end
/-! ### comprehensions -/
section
variable {α γ : Type} [Enc α] [Enc γ] {N : Nat} {η : Env} {L : En} {it : M (List D)} {b : Bd} {q : M Bool} {e : M D} {own : List Nat} {xs : List α} {L1 : α → En}
theorem comp_go {tq : α → Res Bool} {f : α → Res γ} {η : Env} (hb : ∀ x ∈ xs, ∃ η1, b (enc x) η = some η1 ∧ Sm id (q η1) (tq x) ∧ Sm enc (e η1) (f x)) : ∀ (ys : List γ), tFM tq f xs = .ok ys → ∀ acc : List D, acc.length + xs.length ≤ line → compGo b q e η (xs.map enc) acc = .ok (acc ++ ys.map enc) := by
  induction xs with
  | nil =>
    intro ys h acc hl
    cases h
    unfold compGo
    simp
  | cons x xs ih =>
    intro ys h acc hl
    obtain ⟨η1, e1, e2, e3⟩ := hb x (List.mem_cons_self ..)
    have ih' := ih (fun y hy => hb y (List.mem_cons_of_mem _ hy))
    unfold tFM at h
    rw [List.length_cons] at hl
    rw [List.map_cons]
    unfold compGo
    rw [e1]
    show (match q η1 with | .ok true => (match e η1 with | .ok d => if acc.length < line then compGo b q e η (xs.map enc) (acc ++ [d]) else .stuck | _ => .stuck) | .ok false => compGo b q e η (xs.map enc) acc | _ => .stuck) = _
    cases hq : tq x with
    | ok c =>
      rw [hq] at h e2
      have e2' : q η1 = .ok c := e2
      rw [e2']
      cases c with
      | false => exact ih' ys h acc (by omega)
      | true =>
        cases hf : f x with
        | ok y =>
          rw [hf] at e3
          have e3' : e η1 = .ok (enc y) := e3
          rw [e3']
          show (if acc.length < line then compGo b q e η (xs.map enc) (acc ++ [enc y]) else .stuck) = _
          rw [if_pos (by omega)]
          have h' : (match f x with | .ok y => (match tFM tq f xs with | .ok ys => Res.ok (y :: ys) | _ => .stuck) | _ => .stuck) = .ok ys := h
          rw [hf] at h'
          have h2 : (match tFM tq f xs with | .ok ys => Res.ok (y :: ys) | _ => .stuck) = .ok ys := h'
          cases ht : tFM tq f xs with
          | ok zs =>
            rw [ht] at h2
            have h3 : Res.ok (y :: zs) = .ok ys := h2
            cases h3
            rw [ih' zs ht (acc ++ [enc y]) (by rw [List.length_append, List.length_cons, List.length_nil]; omega)]
            simp
          | exc er => rw [ht] at h2; cases h2
          | stuck => rw [ht] at h2; cases h2
        | exc er =>
          have h' : (match f x with | .ok y => (match tFM tq f xs with | .ok ys => Res.ok (y :: ys) | _ => .stuck) | _ => .stuck) = .ok ys := h
          rw [hf] at h'; cases h'
        | stuck =>
          have h' : (match f x with | .ok y => (match tFM tq f xs with | .ok ys => Res.ok (y :: ys) | _ => .stuck) | _ => .stuck) = .ok ys := h
          rw [hf] at h'; cases h'
    | exc er =>
      rw [hq] at h
      cases h
    | stuck =>
      rw [hq] at h
      cases h
theorem tFM_ne {α γ : Type} {q : α → Res Bool} {f : α → Res γ} : ∀ (xs : List α) (er : Er), tFM q f xs ≠ .exc er
  | [], er => fun h => by cases h
  | x :: xs, er => fun h => by
    unfold tFM at h
    cases hq : q x with
    | ok c =>
      rw [hq] at h
      cases c with
      | false => exact tFM_ne xs er h
      | true =>
        have h' : (match f x with | .ok y => (match tFM q f xs with | .ok ys => Res.ok (y :: ys) | _ => .stuck) | _ => .stuck) = .exc er := h
        cases hf : f x with
        | ok y =>
          rw [hf] at h'
          have h2 : (match tFM q f xs with | .ok ys => Res.ok (y :: ys) | _ => .stuck) = .exc er := h'
          cases ht : tFM q f xs <;> rw [ht] at h2 <;> cases h2
        | exc e => rw [hf] at h'; cases h'
        | stuck => rw [hf] at h'; cases h'
    | exc e => rw [hq] at h; cases h
    | stuck => rw [hq] at h; cases h
theorem comp_sim {tq : α → Res Bool} {f : α → Res γ} (hl : η.length = N) (hη : Has η L) (hi : Sm (List.map enc) (it η) (.ok xs)) (ht : ∀ x, SimT N b (enc x) (kick L own) (L1 x))
    (hq : ∀ x η, η.length = N → Has η (L1 x) → Sm id (q η) (tq x)) (he : ∀ x η, η.length = N → Has η (L1 x) → Sm enc (e η) (f x)) : Sm enc (dComp it b q e own η) (cfmE tq f xs) := by
  have hi' : it η = .ok (xs.map enc) := hi
  unfold cfmE capL
  split
  · rename_i hline
    unfold dComp
    rw [hi', ev_bind]
    cases h : tFM tq f xs with
    | ok ys =>
      have z := comp_go (η := wipeE η own) (b := b) (q := q) (e := e) (xs := xs) (tq := tq) (f := f) (fun x _ => by
        obtain ⟨η1, e1, l1, a1⟩ := ht x (wipeE η own) (by rw [wipe_len]; exact hl) (hη.wipe own)
        exact ⟨η1, e1, hq x η1 l1 a1, he x η1 l1 a1⟩) ys h [] (by simpa using hline)
      rw [z]
      exact rfl
    | exc er => exact absurd h (tFM_ne xs er)
    | stuck => exact trivial
  · exact trivial
theorem tFM_map {α γ : Type} {g : α → γ} : ∀ xs : List α, tFM (fun _ => .ok true) (fun x => .ok (g x)) xs = .ok (xs.map g)
  | [] => rfl
  | x :: xs => by
    unfold tFM
    rw [tFM_map xs]; rfl
theorem tFM_fm {α γ : Type} {p : α → Bool} {g : α → γ} : ∀ xs : List α, tFM (fun x => .ok (p x)) (fun x => .ok (g x)) xs = .ok ((xs.filter p).map g)
  | [] => rfl
  | x :: xs => by
    unfold tFM
    rw [tFM_fm xs, List.filter_cons]
    cases p x <;> rfl
theorem compP {g : α → γ} (hl : η.length = N) (hη : Has η L) (hi : Sm (List.map enc) (it η) (.ok xs)) (ht : ∀ x, SimT N b (enc x) (kick L own) (L1 x)) (he : ∀ x η, η.length = N → Has η (L1 x) → Sm enc (e η) (.ok (g x))) : Sm enc (dComp it b qYes e own η) (cmap g xs) := by
  have z := comp_sim (q := qYes) (tq := fun _ => .ok true) hl hη hi ht (fun _ _ _ _ => rfl) he
  unfold cfmE at z
  rw [tFM_map] at z
  unfold cmap
  exact z
theorem compE {f : α → Res γ} (hl : η.length = N) (hη : Has η L) (hi : Sm (List.map enc) (it η) (.ok xs)) (ht : ∀ x, SimT N b (enc x) (kick L own) (L1 x)) (he : ∀ x η, η.length = N → Has η (L1 x) → Sm enc (e η) (f x)) : Sm enc (dComp it b qYes e own η) (cmapE f xs) := by
  have z := comp_sim (q := qYes) (tq := fun _ => .ok true) hl hη hi ht (fun _ _ _ _ => rfl) he
  unfold cfmE at z
  unfold cmapE
  exact z
theorem compQ {p : α → Bool} {g : α → γ} (hl : η.length = N) (hη : Has η L) (hi : Sm (List.map enc) (it η) (.ok xs)) (ht : ∀ x, SimT N b (enc x) (kick L own) (L1 x)) (hq : ∀ x η, η.length = N → Has η (L1 x) → Sm id (q η) (.ok (p x))) (he : ∀ x η, η.length = N → Has η (L1 x) → Sm enc (e η) (.ok (g x))) : Sm enc (dComp it b q e own η) (cfm p g xs) := by
  have z := comp_sim hl hη hi ht hq he
  unfold cfmE at z
  rw [tFM_fm] at z
  unfold cfm
  exact z
/-- the walked thing may fail -/
theorem compI {r : Res (List α)} {t : List α → Res (List γ)} (hi : Sm (List.map enc) (it η) r) (h : ∀ xs, Sm (List.map enc) (it η) (.ok xs) → Sm enc (dComp it b q e own η) (t xs)) : Sm enc (dComp it b q e own η) (r.bind t) := by
  cases r with
  | ok xs => exact h xs hi
  | exc er =>
    have h' : it η = .exc er := hi
    unfold dComp
    rw [h']; exact rfl
  | stuck => exact trivial
end
/-! slices -/
section
variable {α : Type} [Enc α] {η : Env} {a : M D} {lo hi : M (Option Int)} {xs : List α} {r : Res (List α)} {l h : Option Int}
theorem o_none : (oNone : M (Option Int)) η = .ok none := rfl
theorem o_some {i : Int} (h : Sm enc (a η) (.ok i)) : oSome a η = .ok (some i) := by
  have h' : a η = .ok (.int i) := h
  unfold oSome
  rw [h']; rfl
theorem u_slL (ha : Sm enc (a η) r) (hl : lo η = .ok l) (hh : hi η = .ok h) : Sm enc (dSlL a lo hi η) (r.bind fun xs => .ok (cutL xs l h)) := by
  rw [ev_slL]
  refine bE ha fun xs => ?_
  rw [hl, ev_bind, hh, ev_bind]
  exact l_slL
theorem u_slL' {e : α → D} {t : Res α} (h : Sm e ((a η).bind fun x => (lo η).bind fun l => (hi η).bind fun h => opSlL x l h) t) : Sm e (dSlL a lo hi η) t := h
theorem bO {ε β : Type} {e : β → ε} {k : Option Int → Res ε} {t : Res β} (h : Sm e (k none) t) : Sm e (((oNone : M (Option Int)) η).bind k) t := h
theorem bOP {ε β : Type} {e : β → ε} {k : Option Int → Res ε} {t : Res β} {i : Int} (ha : Sm enc (a η) (.ok i)) (h : Sm e (k (some i)) t) : Sm e ((oSome a η).bind k) t := by
  rw [o_some ha]; exact h
theorem bOE {ε β : Type} {e : β → ε} {k : Option Int → Res ε} {t : Int → Res β} {r : Res Int} (ha : Sm enc (a η) r) (h : ∀ i, Sm e (k (some i)) (t i)) : Sm e ((oSome a η).bind k) (r.bind t) := by
  cases r with
  | ok i => exact bOP ha (h i)
  | exc er => have h' : a η = .exc er := ha; unfold oSome; rw [h']; exact rfl
  | stuck => exact trivial
theorem u_slLP (ha : Sm enc (a η) (.ok xs)) (hl : lo η = .ok l) (hh : hi η = .ok h) : Sm enc (dSlL a lo hi η) (.ok (cutL xs l h)) := u_slL ha hl hh
end
end VT
/-! VTCls: typed instances, x[i] op= e. -/
namespace VT
open PySem hiding Env
open VL Enc
section
variable {α β : Type} {η : Env} {mo : M D} {mas : M (List D)} {c : Nat} {f : List D → Res D} [Enc α] [Enc β]
theorem u_meth {x : α} {t : Res β} {fs : List D} (ho : Sm enc (mo η) (.ok x)) (h : Sm enc ((mas η).bind fun as => f (enc x :: as)) t) (hx : enc x = .ins c fs := by rfl) : Sm enc (dMeth c f mo mas η) t := by
  have h' : mo η = .ok (enc x) := ho
  unfold dMeth
  rw [h', ev_bind]
  have e : isIns c (enc x) = .ok () := by rw [hx]; exact if_pos rfl
  rw [e, ev_bind]
  exact h
theorem u_methE {r : Res α} {t : α → Res β} {fs : α → List D} (ho : Sm enc (mo η) r) (h : ∀ x, Sm enc ((mas η).bind fun as => f (enc x :: as)) (t x)) (hx : ∀ x : α, enc x = .ins c (fs x) := by intro _; rfl) : Sm enc (dMeth c f mo mas η) (r.bind t) := by
  cases r with
  | ok x => exact u_meth ho (h x) (hx x)
  | exc er =>
    have h' : mo η = .exc er := ho
    unfold dMeth
    rw [h']; exact rfl
  | stuck => exact trivial
theorem u_mas {fl : α → List D} {t : Res α} (h : Sm fl ((mas η).bind Res.ok) t) : Sm fl (mas η) t := by
  have e : (mas η).bind Res.ok = mas η := by cases mas η <;> rfl
  rw [e] at h; exact h
end
section
variable {α β σ ρ : Type} [Enc ρ] [Enc α] {N : Nat} {X L : En} {Lb : β → En} {Ls : σ → En} {ms : List (Env → Fl)} {mas : M (List D)} {c : Nat}
theorem k_init {r : Res α} {k : α → TF β σ ρ} (fl : α → List D) (he : ∀ g : α, enc g = .ins c (fl g)) (hc : ∀ g : α, (fl g).length = (clsTab c).2.length := by intro _; rfl) (hi : 0 < N) (hX : Sub L X) (ha : ∀ η, η.length = N → Has η L → Sm fl (mas η) r) (h : ∀ x, SimK N X Lb Ls ms ((0, enc x) :: L) (k x)) : SimK N X Lb Ls (sInit c mas :: ms) L (onE r k) := fun η hl hη => by
  show Post N X Lb Ls (match onRes (mas η) η (fun ds => if ds.length = (clsTab c).2.length then .nx (η.set 0 (some (.ins c ds))) else .stuck) with | .nx η' => runK ms η' | r => r) (onE r k)
  refine onB_post (ha η hl hη) hl (hX η hη) fun x => ?_
  rw [if_pos (hc x), ← he x]
  exact h x _ (by rw [List.length_set]; exact hl) (hη.set 0 (by omega))
end
def tRunI {ρ : Type} (t : TF Unit ρ Unit) : Res ρ := match t with
  | .nx r => .ok r
  | .ex e => .exc e
  | _ => .stuck
theorem idx_lk1 {ds : List D} {i : Nat} {d : D} (h : lk (idx 1 ds) i = some d) : ∃ j, i = j + 1 ∧ ds[j]? = some d := by
  obtain ⟨h1, h2⟩ := idx_lk h
  exact ⟨i - 1, by omega, h2⟩
theorem fn_simI {ρ : Type} [Enc ρ] {n m : Nat} {body : Env → Fl} {ds : List D} {t : TF Unit ρ Unit} (hn : ds.length = n) (hm : n + 1 ≤ m) (h : SimK m [] (fun _ => []) (fun g : ρ => [(0, enc g)]) [body] (idx 1 ds) t) : Sm enc (mkInit n m body ds) (tRunI t) := by
  have z0 : Post m [] (fun _ => []) (fun g : ρ => [(0, enc g)]) (runK [body] (none :: (ds.map some ++ List.replicate (m - n - 1) none))) t := h _ (by simp; omega) fun i d hi => by
    obtain ⟨j, rfl, hj⟩ := idx_lk1 hi
    have hlt := (List.getElem?_eq_some_iff.mp hj).1
    rw [List.getElem?_cons_succ, List.getElem?_append_left (by simpa using hlt), List.getElem?_map, hj]
    rfl
  have z : Post m [] (fun _ => []) (fun g : ρ => [(0, enc g)]) (body (none :: (ds.map some ++ List.replicate (m - n - 1) none))) t := by
    have e : runK [body] (none :: (ds.map some ++ List.replicate (m - n - 1) none)) = body (none :: (ds.map some ++ List.replicate (m - n - 1) none)) := by
      show (match body (none :: (ds.map some ++ List.replicate (m - n - 1) none)) with | .nx η' => Fl.nx η' | r => r) = _
      cases body (none :: (ds.map some ++ List.replicate (m - n - 1) none)) <;> rfl
    rw [← e]; exact z0
  unfold mkInit
  rw [if_pos hn]
  cases t with
  | rt r => exact trivial
  | ex e =>
    obtain ⟨η, e, _⟩ := z
    rw [e]; exact rfl
  | nx s =>
    obtain ⟨η, e, _, hη⟩ := z
    rw [e]
    show Sm enc (match η[0]? with | some (some d) => Res.ok d | _ => .stuck) (.ok s)
    rw [hη 0 (enc s) rfl]
    exact rfl
  | bk s => exact trivial
  | ct s => exact trivial
  | stuck => exact trivial
/-! x[i] op= e -/
@[irreducible] def augI (f : Int → Int → Int) (xs : List Int) (ri ra : Res Int) : Res (List Int) := ri.bind fun i => (ix xs i).bind fun old => ra.bind fun v => setI xs i (f old v)
section
variable {β σ ρ : Type} [Enc ρ] {N : Nat} {X L : En} {Lb : β → En} {Ls : σ → En} {ms : List (Env → Fl)} {a b : M D} {k : Nat} {f : D → D → Res D}
theorem k_augS {g : Int → Int → Int} {xs : List Int} {ri ra : Res Int} {t : List Int → TF β σ ρ} (hk : k < N) (hX : Sub L X) (e : lk L k = some (enc xs)) (hf : ∀ x y : Int, f (.int x) (.int y) = .ok (.int (g x y))) (hb : ∀ η, η.length = N → Has η L → Sm enc (b η) ri) (ha : ∀ η, η.length = N → Has η L → Sm enc (a η) ra) (h : ∀ ys, SimK N X Lb Ls ms ((k, enc ys) :: L) (t ys)) : SimK N X Lb Ls (sAugS k b f a :: ms) L (onE (augI g xs ri ra) t) := fun η hl hη => by
  have z := lstAt_has (ys := xs.map enc) hη e
  have q1 := hb η hl hη
  have q2 := ha η hl hη
  unfold augI
  show Post N X Lb Ls (match onRes (lstAt η k) η (fun xs => onRes (b η) η fun y => match y with
    | .int z => (match atD xs z with
      | some old => onRes ((a η).bind fun v => f old v) η fun d => match setD xs z d with | some ys => .nx (η.set k (some (.lst ys))) | none => .stuck
      | none => .stuck)
    | _ => .stuck) with | .nx η' => runK ms η' | r => r) _
  rw [z, ev_on]
  cases ri with
  | stuck => exact trivial
  | exc er => have q1' : b η = .exc er := q1; rw [q1']; exact ⟨η, rfl, hl, hX η hη⟩
  | ok i =>
    have q1' : b η = .ok (.int i) := q1
    rw [q1', ev_on, ev_bind]
    show Post N X Lb Ls (match (match atD (xs.map enc) i with
      | some old => onRes ((a η).bind fun v => f old v) η fun d => match setD (xs.map enc) i d with | some ys => Fl.nx (η.set k (some (.lst ys))) | none => .stuck
      | none => .stuck) with | .nx η' => runK ms η' | r => r) _
    unfold ix atD atL
    rw [List.length_map]
    cases hx : ixOf xs.length i with
    | none => exact trivial
    | some j =>
      simp only [Option.bind_some, List.getElem?_map]
      cases hj : xs[j]? with
      | none => exact trivial
      | some old =>
        simp only [Option.map_some, ev_bind]
        cases ra with
        | stuck => exact trivial
        | exc er => have q2' : a η = .exc er := q2; rw [q2']; exact ⟨η, rfl, hl, hX η hη⟩
        | ok v =>
          have q2' : a η = .ok (.int v) := q2
          have q3 : f (enc old) (.int v) = .ok (.int (g old v)) := hf old v
          rw [q2', ev_bind, q3, ev_on, ev_bind]
          unfold setI setD
          rw [List.length_map, hx]
          have y := h (xs.set j (g old v)) (η.set k (some (enc (xs.set j (g old v))))) (by rw [List.length_set]; exact hl) (hη.set k (by omega))
          have e2 : (enc (xs.set j (g old v)) : D) = .lst ((xs.map enc).set j (enc (g old v))) := by
            show D.lst ((xs.set j (g old v)).map enc) = _
            rw [List.map_set]
          rw [e2] at y
          exact y
end
end VT
/-! VTPick: typed: a def picked from a list of two. -/
namespace VT
open PySem hiding Env
open VL Enc
section
variable {α β : Type} [Enc α] [Enc β] {η : VL.Env} {mi : M D} {mas : M (List D)} {f g : List D → Res D}
def pick2 {γ : Type} (i : Int) (a b : Res γ) : Res γ := if i = 0 then a else if i = 1 then b else .stuck
theorem u_pick {i : Int} {t1 t2 : Res β} (hi : Sm enc (mi η) (.ok i)) (h1 : Sm enc ((mas η).bind f) t1) (h2 : Sm enc ((mas η).bind g) t2) : Sm enc (dPick2 f g mi mas η) (pick2 i t1 t2) := by
  have h' : mi η = .ok (.int i) := hi
  unfold dPick2 pick2
  rw [h', ev_bind]
  by_cases h0 : i = 0
  · subst h0; exact h1
  · by_cases h1' : i = 1
    · subst h1'; exact h2
    · simp only [h0, h1', if_false]; exact trivial
theorem u_pickI {i : Int} {t1 t2 : Res β} (h1 : Sm enc ((mas η).bind f) t1) (h2 : Sm enc ((mas η).bind g) t2) : Sm enc (dPick2 f g (dLit (.int i)) mas η) (pick2 i t1 t2) := u_pick rfl h1 h2
theorem u_pickE {r : Res Int} {t : Int → Res β} (hi : Sm enc (mi η) r) (h : ∀ i, Sm enc (dPick2 f g (dLit (.int i)) mas η) (t i)) : Sm enc (dPick2 f g mi mas η) (r.bind t) := by
  cases r with
  | ok i =>
    have h' : mi η = .ok (.int i) := hi
    have e : dPick2 f g mi mas η = dPick2 f g (dLit (.int i)) mas η := by
      unfold dPick2
      rw [h']
      rfl
    rw [e]
    exact h i
  | exc er =>
    have h' : mi η = .exc er := hi
    show dPick2 f g mi mas η = .exc er
    unfold dPick2
    rw [h']
    rfl
  | stuck => exact trivial
end
end VT
/-! VTLib: reckoning with typed text. -/
namespace VT
open PySem hiding Env
open VL Enc
section
variable {α β γ σ τ ρ : Type}
@[simp] theorem rb_ok {a : α} {k : α → Res β} : (Res.ok a).bind k = k a := nrf rfl
@[simp] theorem rb_ex {e : Er} {k : α → Res β} : (Res.exc e : Res α).bind k = .exc e := nrf rfl
@[simp] theorem rb_st {k : α → Res β} : (Res.stuck : Res α).bind k = .stuck := nrf rfl
@[simp] theorem rb_id {r : Res α} : (r.bind fun v => .ok v) = r := by cases r <;> rfl
@[simp] theorem on_ok {a : α} {k : α → TF β σ ρ} : onE (.ok a) k = k a := nrf rfl
@[simp] theorem on_ex {e : Er} {k : α → TF β σ ρ} : onE (.exc e) k = .ex e := nrf rfl
@[simp] theorem on_st {k : α → TF β σ ρ} : onE .stuck k = .stuck := nrf rfl
@[simp] theorem tb_nx {s : σ} {k : σ → TF β τ ρ} : (TF.nx s : TF β σ ρ).bind k = k s := nrf rfl
@[simp] theorem tb_rt {r : ρ} {k : σ → TF β τ ρ} : (TF.rt r : TF β σ ρ).bind k = .rt r := nrf rfl
@[simp] theorem tb_bk {b : β} {k : σ → TF β τ ρ} : (TF.bk b : TF β σ ρ).bind k = .bk b := nrf rfl
@[simp] theorem tb_ct {b : β} {k : σ → TF β τ ρ} : (TF.ct b : TF β σ ρ).bind k = .ct b := nrf rfl
@[simp] theorem tb_ex {e : Er} {k : σ → TF β τ ρ} : (TF.ex e : TF β σ ρ).bind k = .ex e := nrf rfl
@[simp] theorem tb_st {k : σ → TF β τ ρ} : (TF.stuck : TF β σ ρ).bind k = .stuck := nrf rfl
@[simp] theorem tb_ite {c : Prop} [Decidable c] {a b : TF β σ ρ} {k : σ → TF β τ ρ} : (if c then a else b).bind k = if c then a.bind k else b.bind k := by split <;> rfl
@[simp] theorem on_ite {c : Prop} [Decidable c] {a b : Res α} {k : α → TF β σ ρ} : onE (if c then a else b) k = if c then onE a k else onE b k := by split <;> rfl
@[simp] theorem rb_ite {c : Prop} [Decidable c] {a b : Res α} {k : α → Res β} : (if c then a else b).bind k = if c then a.bind k else b.bind k := by split <;> rfl
@[simp] theorem rn_rt {r : ρ} : tRun (.rt r) = .ok r := nrf rfl
@[simp] theorem rn_ex {e : Er} : tRun (.ex e : TF Unit Unit ρ) = .exc e := nrf rfl
@[simp] theorem rn_ite {c : Prop} [Decidable c] {a b : TF Unit Unit ρ} : tRun (if c then a else b) = if c then tRun a else tRun b := by split <;> rfl
@[simp] theorem rf_rt {r r0 : ρ} : tRunF r0 (.rt r) = .ok r := nrf rfl
@[simp] theorem rf_nx {u : Unit} {r0 : ρ} : tRunF r0 (.nx u) = .ok r0 := nrf rfl
@[simp] theorem rf_ex {e : Er} {r0 : ρ} : tRunF r0 (.ex e : TF Unit Unit ρ) = .exc e := nrf rfl
@[simp] theorem rf_ite {c : Prop} [Decidable c] {r0 : ρ} {a b : TF Unit Unit ρ} : tRunF r0 (if c then a else b) = if c then tRunF r0 a else tRunF r0 b := by split <;> rfl
@[simp] theorem ri_nx {r : ρ} : tRunI (.nx r) = .ok r := nrf rfl
@[simp] theorem ri_ex {e : Er} : tRunI (.ex e : TF Unit ρ Unit) = .exc e := nrf rfl
@[simp] theorem ri_ite {c : Prop} [Decidable c] {a b : TF Unit ρ Unit} : tRunI (if c then a else b) = if c then tRunI a else tRunI b := by split <;> rfl
@[simp] theorem tt_rt {r : ρ} {c : Er} {h : Er → TF β σ ρ} : tTry (.rt r) c h = .rt r := nrf rfl
@[simp] theorem tt_nx {s : σ} {c : Er} {h : Er → TF β σ ρ} : tTry (.nx s) c h = .nx s := nrf rfl
theorem tt_ex {e c : Er} {h : Er → TF β σ ρ} {t : TF β σ ρ} (h1 : e.own = true) (h2 : e.sub c = true) (h3 : h e = t) (h4 : ∀ e, t ≠ .ex e) : tTry (.ex e) c h = t := by
  subst h3
  show (if e.own then (if e.sub c then (match h e with | .ex _ => .stuck | r => r) else .ex e) else .stuck) = h e
  rw [h1, if_pos rfl, h2, if_pos rfl]
  cases hh : h e <;> first | rfl | exact absurd hh (h4 _)
theorem tt_range {h : Er → TF β σ ρ} : tTry (.ex .range) .purse h = match h .range with | .ex _ => .stuck | r => r := nrf rfl
theorem tt_range2 {h : Er → TF β σ ρ} : tTry (.ex .range) .range h = match h .range with | .ex _ => .stuck | r => r := nrf rfl
theorem is_rr : isEr .range .range = .ok true := rfl
theorem is_rp : isEr .range .purse = .ok true := rfl
theorem is_rm : isEr .range .malformed = .ok false := rfl
@[simp] theorem ra_ok {a : Bool} {b : Res Bool} : rand (.ok a) b = if a then b else .ok false := nrf rfl
@[simp] theorem ro_ok {a : Bool} {b : Res Bool} : ror (.ok a) b = if a then .ok true else b := nrf rfl
@[simp] theorem ra_ok2 {a b : Bool} : rand (.ok a) (.ok b) = .ok (a && b) := by cases a <;> rfl
@[simp] theorem ro_ok2 {a b : Bool} : ror (.ok a) (.ok b) = .ok (a || b) := by cases a <;> rfl
@[simp] theorem tf_nil {s : σ} {f : α → σ → TF σ σ ρ} : (tFor [] s f : TF β σ ρ) = .nx s := nrf rfl
theorem tf_cons {x : α} {xs : List α} {s : σ} {f : α → σ → TF σ σ ρ} : (tFor (x :: xs) s f : TF β σ ρ) = (match f x s with
    | .nx s' => tFor xs s' f
    | .ct s' => tFor xs s' f
    | .bk s' => .nx s'
    | .rt r => .rt r
    | .ex e => .ex e
    | .stuck => .stuck) := nrf rfl
theorem tf_nx {x : α} {xs : List α} {s s' : σ} {f : α → σ → TF σ σ ρ} (h : f x s = .nx s') : (tFor (x :: xs) s f : TF β σ ρ) = tFor xs s' f := by rw [tf_cons, h]
theorem tf_ct {x : α} {xs : List α} {s s' : σ} {f : α → σ → TF σ σ ρ} (h : f x s = .ct s') : (tFor (x :: xs) s f : TF β σ ρ) = tFor xs s' f := by rw [tf_cons, h]
/-- a loop by the number of its turn -/
theorem tFor_go {P : Nat → σ → Prop} {f : α → σ → TF σ σ ρ} : ∀ (xs : List α) (k : Nat) (s : σ), P k s → (∀ i x s, xs[i]? = some x → P (k + i) s → ∃ s', (f x s = .nx s' ∨ f x s = .ct s') ∧ P (k + i + 1) s') → ∃ s', (tFor xs s f : TF β σ ρ) = .nx s' ∧ P (k + xs.length) s'
  | [], k, s, h, _ => ⟨s, rfl, h⟩
  | x :: xs, k, s, h, st => by
    obtain ⟨s1, e1, h1⟩ := st 0 x s rfl h
    obtain ⟨s2, e2, h2⟩ := tFor_go xs (k + 1) s1 h1 fun i y t hy ht => by
      have := st (i + 1) y t (by simpa using hy) (by rw [show k + (i + 1) = k + 1 + i by omega]; exact ht)
      rw [show k + (i + 1) + 1 = k + 1 + i + 1 by omega] at this
      exact this
    refine ⟨s2, ?_, by rw [List.length_cons, show k + (xs.length + 1) = k + 1 + xs.length by omega]; exact h2⟩
    rw [tf_cons]
    rcases e1 with e1 | e1 <;> (rw [e1]; exact e2)
theorem tFor_idx (P : Nat → σ → Prop) {f : α → σ → TF σ σ ρ} {xs : List α} {s : σ} (h : P 0 s) (st : ∀ i x s, xs[i]? = some x → P i s → ∃ s', (f x s = .nx s' ∨ f x s = .ct s') ∧ P (i + 1) s') : ∃ s', (tFor xs s f : TF β σ ρ) = .nx s' ∧ P xs.length s' := by
  have z := tFor_go (β := β) (P := P) (f := f) xs 0 s h fun i x s hx hp => by
    rw [Nat.zero_add] at hp ⊢
    exact st i x s hx hp
  rw [Nat.zero_add] at z
  exact z
/-- .. whose states are told -/
theorem tFor_st (S : Nat → σ) {f : α → σ → TF σ σ ρ} {xs : List α} {s : σ} (h : s = S 0) (st : ∀ i x, xs[i]? = some x → (f x (S i) = .nx (S (i + 1)) ∨ f x (S i) = .ct (S (i + 1)))) : (tFor xs s f : TF β σ ρ) = .nx (S xs.length) := by
  obtain ⟨s', e, h2⟩ := tFor_idx (β := β) (fun i s => s = S i) (f := f) (xs := xs) h fun i x s hx hp => by
    subst hp
    exact ⟨_, st i x hx, rfl⟩
  rw [e, h2]
/-- a loop, and what comes of it -/
theorem for_idx (Q : TF β τ ρ → Prop) (P : Nat → σ → Prop) {f : α → σ → TF σ σ ρ} {xs : List α} {s : σ} {k : σ → TF β τ ρ} (h : P 0 s) (st : ∀ i x s, xs[i]? = some x → P i s → ∃ s', (f x s = .nx s' ∨ f x s = .ct s') ∧ P (i + 1) s') (fin : ∀ s, P xs.length s → Q (k s)) : Q ((tFor xs s f).bind k) := by
  obtain ⟨s', e, hs⟩ := tFor_idx (β := β) P h st
  rw [e]
  exact fin s' hs
theorem for_keep (Q : TF β τ ρ → Prop) (I : σ → Prop) {f : α → σ → TF σ σ ρ} {xs : List α} {s : σ} {k : σ → TF β τ ρ} (h : I s) (st : ∀ x ∈ xs, ∀ s, I s → ∃ s', (f x s = .nx s' ∨ f x s = .ct s') ∧ I s') (fin : ∀ s, I s → Q (k s)) : Q ((tFor xs s f).bind k) := by
  have key := tFor_idx (β := β) (fun _ s => I s) (f := f) (xs := xs) h fun i x s hx hs => st x (List.mem_of_getElem? hx) s hs
  obtain ⟨s', e, hs⟩ := key
  rw [e]
  exact fin s' hs
/-- a loop that checks alone -/
theorem tFor_all {f : α → Unit → TF Unit Unit ρ} : ∀ {xs : List α}, (∀ x ∈ xs, f x () = .nx () ∨ f x () = .ct ()) → (tFor xs () f : TF β Unit ρ) = .nx ()
  | [], _ => rfl
  | x :: xs, h => by
    rw [tf_cons]
    rcases h x (List.mem_cons_self ..) with e | e <;> (rw [e]; exact tFor_all fun y hy => h y (List.mem_cons_of_mem _ hy))
theorem tFor_keep {I : σ → Prop} {f : α → σ → TF σ σ ρ} : ∀ {xs : List α} {s : σ}, I s → (∀ x ∈ xs, ∀ s, I s → ∃ s', (f x s = .nx s' ∨ f x s = .ct s') ∧ I s') → ∃ s', (tFor xs s f : TF β σ ρ) = .nx s' ∧ I s'
  | [], s, h, _ => ⟨s, rfl, h⟩
  | x :: xs, s, h, st => by
    obtain ⟨s1, e1, h1⟩ := st x (List.mem_cons_self ..) s h
    obtain ⟨s2, e2, h2⟩ := tFor_keep (xs := xs) h1 fun y hy => st y (List.mem_cons_of_mem _ hy)
    refine ⟨s2, ?_, h2⟩
    rw [tf_cons]
    rcases e1 with e1 | e1 <;> (rw [e1]; exact e2)
end
/-! operators that are not stuck -/
theorem imul_ok {x y : Int} (h : mulOk x y = true) : imul x y = .ok (x * y) := by unfold imul; exact if_pos h
theorem idiv_ok {x y : Int} (h : divOk x y = true) : idiv x y = .ok (x / y) := by unfold idiv; exact if_pos h
theorem imod_ok {x y : Int} (h : 0 < y) : imod x y = .ok (x % y) := by unfold imod; exact if_pos h
theorem ipow_ok {x y : Int} (h : powOk x y = true) : ipow x y = .ok (x ^ y.toNat) := by unfold ipow; exact if_pos h
theorem ishl_ok {x y : Int} (h : shlOk x y = true) : ishl x y = .ok (x * 2 ^ y.toNat) := by unfold ishl; exact if_pos h
theorem ishr_ok {x y : Int} (h : 0 ≤ y) : ishr x y = .ok (x / 2 ^ y.toNat) := by unfold ishr; exact if_pos h
section
variable {α β γ : Type}
theorem lcat_ok {xs ys : List α} (h : xs.length + ys.length ≤ 100000) : lcat xs ys = .ok (xs ++ ys) := by unfold lcat; exact if_pos (le_line h)
theorem lapp_ok {xs : List α} {x : α} (h : xs.length < 100000) : lapp xs x = .ok (xs ++ [x]) := by unfold lapp; exact if_pos (lt_line (by omega))
theorem lrep_ok {xs : List α} {k : Nat} (h1 : k ≤ 100000) (h : xs.length * k ≤ 100000) : lrep xs (k : Int) = .ok (List.replicate k xs).flatten := by
  unfold lrep
  rw [if_pos ⟨by omega, by omega, le_line (by rw [Int.toNat_natCast]; exact h)⟩, Int.toNat_natCast]
theorem lrep1_ok {x : α} {k : Nat} (h1 : k ≤ 100000) : lrep [x] (k : Int) = .ok (List.replicate k x) := by
  rw [lrep_ok h1 (by simp; exact h1)]
  congr 1
  induction k with
  | zero => rfl
  | succ k ih => rw [List.replicate_succ, List.flatten_cons, ih (by omega), List.replicate_succ]; rfl
theorem ix_ok {xs : List α} {i : Nat} {x : α} (h : xs[i]? = some x) : ix xs (i : Int) = .ok x := by
  unfold ix atL
  rw [ix_nat (List.getElem?_eq_some_iff.mp h).1, Option.bind_some, h]
theorem ix_int {xs : List α} {i : Int} {x : α} (h0 : 0 ≤ i) (h : xs[i.toNat]? = some x) : ix xs i = .ok x := by
  have e : i = ((i.toNat : Nat) : Int) := (Int.toNat_of_nonneg h0).symm
  rw [e]; exact ix_ok h
@[simp] theorem ix_0 {x : α} {xs : List α} : ix (x :: xs) 0 = .ok x := ix_ok (i := 0) rfl
@[simp] theorem ix_1 {x y : α} {xs : List α} : ix (x :: y :: xs) 1 = .ok y := ix_ok (i := 1) rfl
@[simp] theorem ix_2 {x y z : α} {xs : List α} : ix (x :: y :: z :: xs) 2 = .ok z := ix_ok (i := 2) rfl
@[simp] theorem ix_3 {x y z w : α} {xs : List α} : ix (x :: y :: z :: w :: xs) 3 = .ok w := ix_ok (i := 3) rfl
theorem setI_ok {xs : List α} {i : Nat} {x : α} (h : i < xs.length) : setI xs (i : Int) x = .ok (xs.set i x) := by
  unfold setI
  rw [ix_nat h]
theorem setI_int {xs : List α} {i : Int} {x : α} (h0 : 0 ≤ i) (h : i < xs.length) : setI xs i x = .ok (xs.set i.toNat x) := by
  have e : i = ((i.toNat : Nat) : Int) := (Int.toNat_of_nonneg h0).symm
  rw [e, setI_ok (by omega)]
  rfl
theorem capL_ok {xs : List α} {r : Res (List γ)} (h : xs.length ≤ 100000) : capL xs r = r := by unfold capL; exact if_pos (le_line h)
theorem cmap_ok {g : α → γ} {xs : List α} (h : xs.length ≤ 100000) : cmap g xs = .ok (xs.map g) := by unfold cmap; exact capL_ok h
theorem cfm_ok {p : α → Bool} {g : α → γ} {xs : List α} (h : xs.length ≤ 100000) : cfm p g xs = .ok ((xs.filter p).map g) := by unfold cfm; exact capL_ok h
theorem tFM_ok {q : α → Res Bool} {f : α → Res γ} {p : α → Bool} {g : α → γ} : ∀ {xs : List α}, (∀ x ∈ xs, q x = .ok (p x)) → (∀ x ∈ xs, p x = true → f x = .ok (g x)) → tFM q f xs = .ok ((xs.filter p).map g)
  | [], _, _ => rfl
  | x :: xs, h1, h2 => by
    unfold tFM
    rw [h1 x (List.mem_cons_self ..), tFM_ok (fun y hy => h1 y (List.mem_cons_of_mem _ hy)) (fun y hy => h2 y (List.mem_cons_of_mem _ hy)), List.filter_cons]
    cases hp : p x with
    | false => rfl
    | true =>
      show (match f x with | .ok y => Res.ok (y :: (xs.filter p).map g) | _ => .stuck) = _
      rw [h2 x (List.mem_cons_self ..) hp]; rfl
theorem cmapE_ok {f : α → Res γ} {g : α → γ} {xs : List α} (h : xs.length ≤ 100000) (hf : ∀ x ∈ xs, f x = .ok (g x)) : cmapE f xs = .ok (xs.map g) := by
  unfold cmapE
  rw [capL_ok h, tFM_ok (p := fun _ => true) (g := g) (fun _ _ => rfl) (fun x hx _ => hf x hx), List.filter_eq_self.mpr (fun _ _ => rfl)]
theorem cfmE_ok {q : α → Res Bool} {f : α → Res γ} {p : α → Bool} {g : α → γ} {xs : List α} (h : xs.length ≤ 100000) (hq : ∀ x ∈ xs, q x = .ok (p x)) (hf : ∀ x ∈ xs, p x = true → f x = .ok (g x)) : cfmE q f xs = .ok ((xs.filter p).map g) := by
  unfold cfmE
  rw [capL_ok h, tFM_ok hq hf]
theorem irange_ok {n : Nat} (h : n ≤ 1000000000) : irange (n : Int) = .ok (rng 0 n) := by
  unfold irange
  rw [if_pos (lim_in h), Int.toNat_natCast]
theorem irange_int {n : Int} (h0 : 0 ≤ n) (h : n ≤ 1000000000) : irange n = .ok (rng 0 n.toNat) := by
  have e : n = ((n.toNat : Nat) : Int) := (Int.toNat_of_nonneg h0).symm
  rw [e, irange_ok (by omega)]
  rfl
theorem lim62_eq : lim62 = 4611686018427387904 := rfl
theorem irange2_ok {i j : Int} (h1 : -1000000000 ≤ i) (h2 : i ≤ 1000000000) (h3 : -1000000000 ≤ j) (h4 : j ≤ 1000000000) : irange2 i j = .ok (rng i (j - i).toNat) := by
  unfold irange2
  rw [lim62_eq, if_pos (by omega)]
@[simp] theorem rng_len {lo : Int} {n : Nat} : (rng lo n).length = n := by simp [rng]
theorem rng_get {lo : Int} {n i : Nat} (h : i < n) : (rng lo n)[i]? = some (lo + (i : Int)) := by simp [rng, h]
theorem rng_some {lo x : Int} {n i : Nat} (h : (rng lo n)[i]? = some x) : i < n ∧ x = lo + (i : Int) := by
  have hi := (List.getElem?_eq_some_iff.mp h).1
  rw [rng_len] at hi
  rw [rng_get hi] at h
  exact ⟨hi, (Option.some.inj h).symm⟩
theorem rng_mem {lo x : Int} {n : Nat} : x ∈ rng lo n ↔ lo ≤ x ∧ x < lo + n := by
  unfold rng
  rw [List.mem_map]
  constructor
  · rintro ⟨k, hk, rfl⟩
    have := List.mem_range.mp hk
    omega
  · intro h
    exact ⟨(x - lo).toNat, List.mem_range.mpr (by omega), by omega⟩
theorem rng_zero {lo : Int} : rng lo 0 = [] := rfl
theorem rng_succ {lo : Int} {n : Nat} : rng lo (n + 1) = lo :: rng (lo + 1) n := by
  unfold rng
  rw [List.range_succ_eq_map, List.map_cons, List.map_map, List.cons.injEq]
  refine ⟨by simp, List.map_congr_left fun k _ => ?_⟩
  show lo + ((k + 1 : Nat) : Int) = lo + 1 + (k : Int)
  omega
@[simp] theorem enum_len {k : Nat} {xs : List α} : (enumL k xs).length = xs.length := by
  induction xs generalizing k with
  | nil => rfl
  | cons x xs ih => show (enumL (k + 1) xs).length + 1 = _; rw [ih]; rfl
theorem enum_some {xs : List α} : ∀ {k i : Nat} {p : Int × α}, (enumL k xs)[i]? = some p → xs[i]? = some p.2 ∧ p.1 = ((k + i : Nat) : Int) := by
  induction xs with
  | nil => intro k i p h; cases i <;> cases h
  | cons x xs ih =>
    intro k i p h
    cases i with
    | zero =>
      have h' : some ((k : Int), x) = some p := h
      cases h'
      exact ⟨rfl, rfl⟩
    | succ i =>
      have h' : (enumL (k + 1) xs)[i]? = some p := h
      obtain ⟨h1, h2⟩ := ih h'
      exact ⟨h1, by rw [h2]; congr 1; omega⟩
theorem zip_some {xs : List α} {ys : List β} {i : Nat} {p : α × β} (h : (xs.zip ys)[i]? = some p) : xs[i]? = some p.1 ∧ ys[i]? = some p.2 := List.getElem?_zip_eq_some.mp h
end
/-! sizes -/
theorem Sz_num {k : Nat} : Sz (k.log2 + 1) (@OfNat.ofNat Int k instOfNat) := by
  show (k : Int).natAbs < 2 ^ (k.log2 + 1)
  rw [Int.natAbs_natCast]
  exact Nat.lt_log2_self
theorem Sz_nat {k n : Nat} (h : k < 2 ^ n) : Sz n (k : Int) := by
  show (k : Int).natAbs < _
  rw [Int.natAbs_natCast]; exact h
theorem Sz_iabs {n : Nat} {x : Int} (h : Sz n x) : Sz n (iabs x) := by
  unfold iabs
  split
  · exact h.neg
  · exact h
end VT
/-! VRing: sums; polynomials where x to the power n is -1. -/
namespace VT
open PySem hiding Env
open VL Enc
/-! ### sums -/
def sm : Nat → (Nat → Int) → Int
  | 0, _ => 0
  | n + 1, f => sm n f + f n
theorem sm_congr {f g : Nat → Int} : ∀ {n : Nat}, (∀ i, i < n → f i = g i) → sm n f = sm n g
  | 0, _ => rfl
  | n + 1, h => by
    show sm n f + f n = sm n g + g n
    rw [sm_congr fun i hi => h i (by omega), h n (by omega)]
theorem sm_zero {f : Nat → Int} : ∀ {n : Nat}, (∀ i, i < n → f i = 0) → sm n f = 0
  | 0, _ => rfl
  | n + 1, h => by
    show sm n f + f n = 0
    rw [sm_zero fun i hi => h i (by omega), h n (by omega)]; rfl
theorem sm_add (f g : Nat → Int) : ∀ n : Nat, sm n (fun i => f i + g i) = sm n f + sm n g
  | 0 => rfl
  | n + 1 => by
    show sm n (fun i => f i + g i) + (f n + g n) = sm n f + f n + (sm n g + g n)
    rw [sm_add f g n]; omega
theorem sm_sub (f g : Nat → Int) : ∀ n : Nat, sm n (fun i => f i - g i) = sm n f - sm n g
  | 0 => rfl
  | n + 1 => by
    show sm n (fun i => f i - g i) + (f n - g n) = sm n f + f n - (sm n g + g n)
    rw [sm_sub f g n]; omega
theorem sm_neg (f : Nat → Int) : ∀ n : Nat, sm n (fun i => -f i) = -sm n f
  | 0 => rfl
  | n + 1 => by
    show sm n (fun i => -f i) + -f n = -(sm n f + f n)
    rw [sm_neg f n]; omega
theorem sm_mul (c : Int) (f : Nat → Int) : ∀ n : Nat, sm n (fun i => c * f i) = c * sm n f
  | 0 => (Int.mul_zero c).symm
  | n + 1 => by
    show sm n (fun i => c * f i) + c * f n = c * (sm n f + f n)
    rw [sm_mul c f n, Int.mul_add]
theorem sm_mulr (c : Int) (f : Nat → Int) (n : Nat) : sm n (fun i => f i * c) = sm n f * c := by
  rw [Int.mul_comm, ← sm_mul]
  exact sm_congr fun i _ => Int.mul_comm _ _
theorem sm_comm (f : Nat → Nat → Int) (m : Nat) : ∀ n : Nat, sm n (fun i => sm m (fun j => f i j)) = sm m (fun j => sm n (fun i => f i j))
  | 0 => (sm_zero fun _ _ => rfl).symm
  | n + 1 => by
    show sm n (fun i => sm m (fun j => f i j)) + sm m (fun j => f n j) = sm m (fun j => sm n (fun i => f i j) + f n j)
    rw [sm_comm f m n, sm_add]
theorem sm_one {f : Nat → Int} {k : Nat} : ∀ {n : Nat}, k < n → (∀ i, i < n → i ≠ k → f i = 0) → sm n f = f k
  | 0, h, _ => absurd h (by omega)
  | n + 1, h, z => by
    show sm n f + f n = f k
    by_cases hk : k = n
    · subst hk
      rw [sm_zero fun i hi => z i (by omega) (by omega), Int.zero_add]
    · rw [sm_one (by omega) fun i hi ne => z i (by omega) ne, z n (by omega) (by omega), Int.add_zero]
theorem sm_ext {f g : Nat → Int} (h : ∀ i, f i = g i) (n : Nat) : sm n f = sm n g := sm_congr fun i _ => h i
/-- sums in another order -/
theorem sm_perm {n : Nat} (p q : Nat → Nat) (hp : ∀ i, i < n → p i < n) (hq : ∀ j, j < n → q j < n ∧ p (q j) = j) (hi : ∀ i j, i < n → j < n → p i = p j → i = j) (f : Nat → Int) : sm n (fun i => f (p i)) = sm n f := by
  have e1 : sm n (fun i => f (p i)) = sm n (fun i => sm n (fun j => if p i = j then f j else 0)) := sm_congr fun i h => by
    rw [sm_one (hp i h) fun j _ hj => if_neg (Ne.symm hj), if_pos rfl]
  have e2 : sm n f = sm n (fun j => sm n (fun i => if p i = j then f j else 0)) := sm_congr fun j h => by
    obtain ⟨h1, h2⟩ := hq j h
    rw [sm_one h1 fun i hi' ne => if_neg fun e => ne (hi i (q j) hi' h1 (by rw [e, h2])), if_pos h2]
  rw [e1, e2, sm_comm]
theorem sm_pos {f : Nat → Int} : ∀ {n : Nat}, (∀ i, i < n → 0 ≤ f i) → 0 ≤ sm n f
  | 0, _ => Int.le_refl _
  | n + 1, h => by
    have a := sm_pos (n := n) fun i hi => h i (by omega)
    have b := h n (by omega)
    show 0 ≤ sm n f + f n
    omega
theorem sm_le {f g : Nat → Int} : ∀ {n : Nat}, (∀ i, i < n → f i ≤ g i) → sm n f ≤ sm n g
  | 0, _ => Int.le_refl _
  | n + 1, h => by
    have a := sm_le (n := n) fun i hi => h i (by omega)
    have b := h n (by omega)
    show sm n f + f n ≤ sm n g + g n
    omega
/-! ### lists by places -/
def at0 (a : List Int) (i : Nat) : Int := a.getD i 0
def tab (n : Nat) (f : Nat → Int) : List Int := (List.range n).map f
@[simp] theorem tab_len {n : Nat} {f : Nat → Int} : (tab n f).length = n := by simp [tab]
theorem tab_get {n i : Nat} {f : Nat → Int} (h : i < n) : (tab n f)[i]? = some (f i) := by simp [tab, h]
theorem tab_at {n i : Nat} {f : Nat → Int} (h : i < n) : at0 (tab n f) i = f i := by
  unfold at0
  rw [List.getD_eq_getElem?_getD, tab_get h]; rfl
theorem at0_some {a : List Int} {i : Nat} {x : Int} (h : a[i]? = some x) : at0 a i = x := by
  unfold at0
  rw [List.getD_eq_getElem?_getD, h]; rfl
theorem get_at0 {a : List Int} {i : Nat} (h : i < a.length) : a[i]? = some (at0 a i) := by
  unfold at0
  rw [List.getD_eq_getElem?_getD, List.getElem?_eq_getElem h]; rfl
theorem tab_eq (a : List Int) : a = tab a.length (at0 a) := by
  refine List.ext_getElem? fun i => ?_
  by_cases h : i < a.length
  · rw [tab_get h, get_at0 h]
  · rw [List.getElem?_eq_none (by omega), List.getElem?_eq_none (by simp; omega)]
theorem tab_congr {n : Nat} {f g : Nat → Int} (h : ∀ i, i < n → f i = g i) : tab n f = tab n g := by
  refine List.ext_getElem? fun i => ?_
  by_cases hi : i < n
  · rw [tab_get hi, tab_get hi, h i hi]
  · rw [List.getElem?_eq_none (by simp; omega), List.getElem?_eq_none (by simp; omega)]
theorem list_ext0 {a b : List Int} (hl : a.length = b.length) (h : ∀ i, i < a.length → at0 a i = at0 b i) : a = b := by
  rw [tab_eq a, tab_eq b, hl]
  exact tab_congr fun i hi => h i (by omega)
theorem tab_set {n p : Nat} {f : Nat → Int} {x : Int} : (tab n f).set p x = tab n (fun i => if i = p then x else f i) := by
  refine List.ext_getElem? fun i => ?_
  rw [List.getElem?_set]
  by_cases hi : i < n
  · rw [tab_get hi]
    by_cases hp : p = i
    · subst hp
      rw [if_pos rfl, if_pos (by simp; exact hi), tab_get hi, if_pos rfl]
    · rw [if_neg hp, tab_get hi, if_neg (Ne.symm hp)]
  · rw [List.getElem?_eq_none (l := tab n _) (by simp; omega), List.getElem?_eq_none (l := tab n _) (by simp; omega)]
    split
    · rw [if_neg (by simp; omega)]
    · rfl
theorem rep_tab {n : Nat} {x : Int} : List.replicate n x = tab n (fun _ => x) := by
  refine List.ext_getElem? fun i => ?_
  by_cases hi : i < n
  · rw [tab_get hi, List.getElem?_replicate, if_pos hi]
  · rw [List.getElem?_eq_none (by simp; omega), List.getElem?_eq_none (by simp; omega)]
theorem map_tab {a : List Int} {g : Int → Int} : a.map g = tab a.length (fun i => g (at0 a i)) := by
  refine List.ext_getElem? fun i => ?_
  by_cases hi : i < a.length
  · rw [tab_get hi, List.getElem?_map, get_at0 hi]; rfl
  · rw [List.getElem?_eq_none (by simp; omega), List.getElem?_eq_none (by simp; omega)]
theorem rng_map_tab {n : Nat} {g : Int → Int} : (rng 0 n).map g = tab n (fun i => g (i : Int)) := by
  unfold rng tab
  rw [List.map_map]
  refine List.map_congr_left fun i _ => ?_
  show g (0 + (i : Int)) = _
  rw [Int.zero_add]
theorem zip_map_tab {a b : List Int} {g : Int × Int → Int} (h : a.length = b.length) : (a.zip b).map g = tab a.length (fun i => g (at0 a i, at0 b i)) := by
  refine List.ext_getElem? fun i => ?_
  by_cases hi : i < a.length
  · rw [tab_get hi, List.getElem?_map]
    have e : (a.zip b)[i]? = some (at0 a i, at0 b i) := List.getElem?_zip_eq_some.mpr ⟨get_at0 hi, get_at0 (by omega)⟩
    rw [e]; rfl
  · rw [List.getElem?_eq_none (by simp; omega), List.getElem?_eq_none (by simp; omega)]
/-! ### x to the power n is -1 -/
def dl (n : Nat) (x : Int) : Int := if x % (2 * n) = 0 then 1 else if x % (2 * n) = n then -1 else 0
theorem dl_per {n : Nat} (x c : Int) : dl n (x + 2 * n * c) = dl n x := by
  unfold dl
  rw [Int.add_mul_emod_self_left]
theorem dl_cong {n : Nat} {x y c : Int} (h : x = y + 2 * n * c) : dl n x = dl n y := by rw [h, dl_per]
theorem mod_ne {n : Nat} (hn : 0 < n) {x : Int} : (x + n) % (2 * (n : Int)) = if x % (2 * n) < n then x % (2 * n) + n else x % (2 * n) - n := by
  have h1 := Int.emod_nonneg x (show 2 * (n : Int) ≠ 0 by omega)
  have h2 := Int.emod_lt_of_pos x (show (0 : Int) < 2 * n by omega)
  have h3 := Int.mul_ediv_add_emod x (2 * n)
  generalize x % (2 * (n : Int)) = r at *
  generalize x / (2 * (n : Int)) = q at *
  subst h3
  split
  · rw [show 2 * (n : Int) * q + r + n = (r + n) + 2 * n * q by omega, Int.add_mul_emod_self_left, Int.emod_eq_of_lt (by omega) (by omega)]
  · rw [show 2 * (n : Int) * q + r + n = (r - n) + 2 * n * (q + 1) by rw [Int.mul_add]; omega, Int.add_mul_emod_self_left, Int.emod_eq_of_lt (by omega) (by omega)]
theorem dl_half {n : Nat} (hn : 0 < n) (x : Int) : dl n (x + n) = -dl n x := by
  unfold dl
  rw [mod_ne hn]
  have h1 := Int.emod_nonneg x (show 2 * (n : Int) ≠ 0 by omega)
  have h2 := Int.emod_lt_of_pos x (show (0 : Int) < 2 * n by omega)
  generalize x % (2 * (n : Int)) = r at *
  repeat' split
  all_goals omega
theorem dl_halfs {n : Nat} (hn : 0 < n) (x : Int) : dl n (x - n) = -dl n x := by
  have := dl_half hn (x - n)
  rw [show x - (n : Int) + n = x by omega] at this
  omega
theorem dl_zero {n : Nat} : dl n 0 = 1 := by unfold dl; simp
theorem dl_small {n : Nat} {x : Int} (h1 : -(n : Int) < x) (h2 : x < n) (h3 : x ≠ 0) : dl n x = 0 := by
  unfold dl
  have e : x % (2 * (n : Int)) = if 0 ≤ x then x else x + 2 * n := by
    split
    · exact Int.emod_eq_of_lt (by omega) (by omega)
    · rw [show x = (x + 2 * n) + 2 * n * (-1) by omega, Int.add_mul_emod_self_left, Int.emod_eq_of_lt (by omega) (by omega)]
      omega
  rw [e]
  repeat' split
  all_goals omega
/-- the coefficient of a at the place k, at all places -/
def co (a : List Int) (k : Int) : Int := sm a.length fun j => dl a.length (j - k) * at0 a j
theorem co_add {a : List Int} (h : 0 < a.length) (k : Int) : co a (k + a.length) = -co a k := by
  unfold co
  rw [← sm_neg]
  refine sm_ext (fun j => ?_) _
  rw [show (j : Int) - (k + a.length) = j - k - a.length by omega, dl_halfs h, Int.neg_mul]
theorem co_per {a : List Int} (k c : Int) : co a (k + 2 * a.length * c) = co a k := by
  unfold co
  refine sm_ext (fun j => ?_) _
  rw [dl_cong (y := (j : Int) - k) (c := -c)]
  rw [Int.mul_neg]; omega
theorem co_at {a : List Int} {i : Nat} (h : i < a.length) : co a i = at0 a i := by
  unfold co
  rw [sm_one h fun j hj ne => by rw [dl_small (by omega) (by omega) (by omega), Int.zero_mul], show (i : Int) - i = 0 by omega, dl_zero, Int.one_mul]
theorem co_ext {a b : List Int} (hl : a.length = b.length) (h : ∀ i : Nat, i < a.length → co a i = co b i) : a = b :=
  list_ext0 hl fun i hi => by rw [← co_at hi, ← co_at (by omega), h i hi]
/-- antiperiodic -/
def Ap (n : Nat) (f : Int → Int) : Prop := ∀ k, f (k + n) = -f k
theorem co_ap {a : List Int} (h : 0 < a.length) : Ap a.length (co a) := co_add h
theorem Ap.per {n : Nat} {f : Int → Int} (h : Ap n f) (k : Int) : f (k + 2 * n) = f k := by
  rw [show k + 2 * (n : Int) = k + n + n by omega, h, h, Int.neg_neg]
theorem Ap.pers {n : Nat} {f : Int → Int} (h : Ap n f) (k : Int) : ∀ c : Nat, f (k + 2 * n * c) = f k
  | 0 => by rw [show k + 2 * (n : Int) * ((0 : Nat) : Int) = k by simp]
  | c + 1 => by
    have := Ap.pers h (k + 2 * n) c
    rw [show k + 2 * (n : Int) * ((c + 1 : Nat) : Int) = k + 2 * n + 2 * n * c by rw [Int.natCast_add, Int.mul_add]; omega, this, h.per]
theorem Ap.cong {n : Nat} {f : Int → Int} (h : Ap n f) {k l c : Int} (e : k = l + 2 * n * c) : f k = f l := by
  by_cases hc : 0 ≤ c
  · have := h.pers l c.toNat
    rw [Int.toNat_of_nonneg hc, ← e] at this
    exact this
  · have := h.pers k (-c).toNat
    rw [Int.toNat_of_nonneg (by omega)] at this
    rw [← this]
    congr 1
    rw [e, Int.mul_neg]; omega
/-- two antiperiodic functions that agree at 0, .., n - 1 -/
theorem Ap.ext {n : Nat} (hn : 0 < n) {f g : Int → Int} (hf : Ap n f) (hg : Ap n g) (h : ∀ i : Nat, i < n → f i = g i) (k : Int) : f k = g k := by
  have h1 := Int.emod_nonneg k (show 2 * (n : Int) ≠ 0 by omega)
  have h2 := Int.emod_lt_of_pos k (show (0 : Int) < 2 * n by omega)
  have h3 := Int.mul_ediv_add_emod k (2 * n)
  have e : k = k % (2 * n) + 2 * n * (k / (2 * n)) := by omega
  rw [hf.cong e, hg.cong e]
  generalize k % (2 * (n : Int)) = r at h1 h2
  by_cases hr : r < n
  · have := h r.toNat (by omega)
    rw [Int.toNat_of_nonneg h1] at this
    exact this
  · have := h (r - n).toNat (by omega)
    rw [Int.toNat_of_nonneg (by omega)] at this
    have a := hf (r - n)
    have b := hg (r - n)
    rw [show r - (n : Int) + n = r by omega] at a b
    rw [a, b, this]
theorem co_tab {n : Nat} (hn : 0 < n) {f : Int → Int} (hf : Ap n f) (k : Int) : co (tab n (fun i => f i)) k = f k := by
  have h0 : (tab n (fun i => f (i : Int))).length = n := tab_len
  have ap : Ap n (co (tab n (fun i => f i))) := by
    have := co_ap (a := tab n (fun i => f (i : Int))) (by rw [h0]; exact hn)
    rw [h0] at this
    exact this
  refine Ap.ext hn ap hf (fun i hi => ?_) k
  rw [co_at (by rw [h0]; exact hi), tab_at hi]
/-! ### the deeds -/
/-- each a_j added at the place q j -/
def plc (n : Nat) (a : List Int) (q : Nat → Int) (m : Nat) : List Int := tab n fun p => sm m fun j => dl n (q j - p) * at0 a j
theorem plc_ap {n : Nat} (hn : 0 < n) {a : List Int} {q : Nat → Int} {m : Nat} : Ap n fun p => sm m fun j => dl n (q j - p) * at0 a j := fun k => by
  show sm m (fun j => dl n (q j - (k + n)) * at0 a j) = -sm m (fun j => dl n (q j - k) * at0 a j)
  rw [← sm_neg]
  refine sm_ext (fun j => ?_) _
  rw [show q j - (k + n) = q j - k - n by omega, dl_halfs hn, Int.neg_mul]
theorem co_plc {n : Nat} (hn : 0 < n) {a : List Int} {q : Nat → Int} {m : Nat} (k : Int) : co (plc n a q m) k = sm m fun j => dl n (q j - k) * at0 a j := co_tab hn (plc_ap hn) k
def nmul (a b : List Int) : List Int := tab a.length fun p => sm a.length fun i => sm a.length fun j => dl a.length (i + j - p) * (at0 a i * at0 b j)
theorem co_nmul {a b : List Int} (h : 0 < a.length) (hl : b.length = a.length) (k : Int) : co (nmul a b) k = sm a.length fun i => at0 a i * co b (k - i) := by
  have e : nmul a b = tab a.length (fun p : Nat => sm a.length fun i => at0 a i * co b ((p : Int) - i)) := by
    refine tab_congr fun p _ => sm_ext (fun i => ?_) _
    unfold co
    rw [← sm_mul, hl]
    refine sm_ext (fun j => ?_) _
    rw [show (i : Int) + j - p = j - ((p : Int) - i) by omega, Int.mul_left_comm]
  rw [e]
  refine co_tab (f := fun p => sm a.length fun i => at0 a i * co b (p - i)) h (fun p => ?_) k
  show sm a.length (fun i => at0 a i * co b (p + a.length - i)) = -sm a.length (fun i => at0 a i * co b (p - i))
  rw [← sm_neg]
  refine sm_ext (fun i => ?_) _
  have := co_add (a := b) (by omega) (p - i)
  rw [hl, show p - (i : Int) + a.length = p + a.length - i by omega] at this
  rw [this, Int.mul_neg]
@[simp] theorem nmul_len {a b : List Int} : (nmul a b).length = a.length := tab_len
@[simp] theorem plc_len {n m : Nat} {a : List Int} {q : Nat → Int} : (plc n a q m).length = n := tab_len
/-- .. over all places -/
theorem co_nmul' {a b : List Int} (h : 0 < a.length) (hl : b.length = a.length) (k : Int) : co (nmul a b) k = sm a.length fun i => co a i * co b (k - i) := by
  rw [co_nmul h hl]
  exact sm_congr fun i hi => by rw [co_at hi]
/-- what is added at one step -/
theorem plc_step {n : Nat} (hn : 0 < n) {a : List Int} {q : Nat → Int} {m : Nat} :
    plc n a q (m + 1) = if q m % (2 * n) < n then (plc n a q m).set (q m % (2 * n)).toNat (at0 (plc n a q m) (q m % (2 * n)).toNat + at0 a m)
      else (plc n a q m).set (q m % (2 * n) - n).toNat (at0 (plc n a q m) (q m % (2 * n) - n).toNat - at0 a m) := by
  have h1 := Int.emod_nonneg (q m) (show 2 * (n : Int) ≠ 0 by omega)
  have h2 := Int.emod_lt_of_pos (q m) (show (0 : Int) < 2 * n by omega)
  have h3 := Int.mul_ediv_add_emod (q m) (2 * n)
  have key : ∀ p : Nat, p < n → dl n (q m - p) = if (p : Int) = q m % (2 * n) then 1 else if (p : Int) = q m % (2 * n) - n then -1 else 0 := fun p hp => by
    rw [dl_cong (x := q m - p) (y := q m % (2 * n) - p) (c := q m / (2 * n)) (by omega)]
    generalize q m % (2 * (n : Int)) = r at h1 h2
    by_cases e1 : (p : Int) = r
    · rw [if_pos e1, show r - (p : Int) = 0 by omega, dl_zero]
    · rw [if_neg e1]
      by_cases e2 : (p : Int) = r - n
      · rw [if_pos e2, show r - (p : Int) = 0 + n by omega, dl_half hn, dl_zero]
      · rw [if_neg e2]
        by_cases e3 : r < n
        · exact dl_small (by omega) (by omega) (by omega)
        · rw [show r - (p : Int) = (r - n - p) + n by omega, dl_half hn, dl_small (by omega) (by omega) (by omega)]; rfl
  unfold plc
  generalize q m % (2 * (n : Int)) = r at h1 h2 key
  by_cases e : r < n
  · rw [if_pos e, tab_set, tab_at (by omega)]
    refine tab_congr fun p hp => ?_
    show sm m _ + dl n (q m - p) * at0 a m = _
    rw [key p hp]
    by_cases ep : p = r.toNat
    · subst ep
      rw [if_pos (by omega), if_pos rfl, Int.one_mul]
    · rw [if_neg (by omega), if_neg (by omega), if_neg ep, Int.zero_mul, Int.add_zero]
  · rw [if_neg e, tab_set, tab_at (by omega)]
    refine tab_congr fun p hp => ?_
    show sm m _ + dl n (q m - p) * at0 a m = _
    rw [key p hp]
    by_cases ep : p = (r - n).toNat
    · subst ep
      rw [if_neg (by omega), if_pos (by omega), if_pos rfl, Int.neg_mul, Int.one_mul]; rfl
    · rw [if_neg (by omega), if_neg (by omega), if_neg ep, Int.zero_mul, Int.add_zero]
theorem plc_zero {n : Nat} {a : List Int} {q : Nat → Int} : plc n a q 0 = tab n fun _ => 0 := rfl
/-- places that are unlike: what stood there is 0 -/
theorem plc_free {n : Nat} (hn : 0 < n) {a : List Int} {q : Nat → Int} {m : Nat} (h : ∀ j, j < m → (q j - q m) % n ≠ 0) : (q m % (2 * n) < n → at0 (plc n a q m) (q m % (2 * n)).toNat = 0) ∧ (¬ q m % (2 * n) < n → at0 (plc n a q m) (q m % (2 * n) - n).toNat = 0) := by
  have h1 := Int.emod_nonneg (q m) (show 2 * (n : Int) ≠ 0 by omega)
  have h2 := Int.emod_lt_of_pos (q m) (show (0 : Int) < 2 * n by omega)
  have h3 := Int.mul_ediv_add_emod (q m) (2 * n)
  have z : ∀ (j : Nat) (p c : Int), j < m → q m = p + n * c → dl n (q j - p) = 0 := fun j p c hj e => by
    have hj' := h j hj
    unfold dl
    have d : ∀ x : Int, x % (2 * n) = 0 ∨ x % (2 * n) = n → x % n = 0 := fun x hx => by
      have h4 := Int.mul_ediv_add_emod x (2 * n)
      rcases hx with hx | hx
      · rw [hx] at h4
        rw [← h4, Int.add_zero, Int.mul_comm 2, Int.mul_assoc, Int.mul_emod_right]
      · rw [hx] at h4
        rw [← h4, show 2 * (n : Int) * (x / (2 * n)) + n = n * (2 * (x / (2 * n)) + 1) by rw [Int.mul_add, Int.mul_one, ← Int.mul_assoc, Int.mul_comm (n : Int) 2], Int.mul_emod_right]
    have e2 : (q j - p) % n = (q j - q m) % n := by
      rw [show q j - p = (q j - q m) + n * c by omega, Int.add_mul_emod_self_left]
    rw [← e2] at hj'
    rw [if_neg fun q => hj' (d _ (.inl q)), if_neg fun q => hj' (d _ (.inr q))]
  constructor
  · intro e
    unfold plc
    rw [tab_at (by omega)]
    refine sm_zero fun j hj => ?_
    rw [z j _ (2 * (q m / (2 * n))) hj (by rw [← Int.mul_assoc, Int.mul_comm (n : Int) 2]; omega), Int.zero_mul]
  · intro e
    unfold plc
    rw [tab_at (by omega)]
    refine sm_zero fun j hj => ?_
    rw [z j _ (2 * (q m / (2 * n)) + 1) hj (by rw [Int.mul_add, ← Int.mul_assoc, Int.mul_comm (n : Int) 2]; omega), Int.zero_mul]
/-! ### shifts and turns -/
def nshift (a : List Int) (s : Int) : List Int := plc a.length a (fun i => i + s) a.length
def nturn (a : List Int) (t : Int) : List Int := plc a.length a (fun i => i * t) a.length
@[simp] theorem nshift_len {a : List Int} {s : Int} : (nshift a s).length = a.length := tab_len
@[simp] theorem nturn_len {a : List Int} {s : Int} : (nturn a s).length = a.length := tab_len
theorem co_nshift {a : List Int} (h : 0 < a.length) (s k : Int) : co (nshift a s) k = co a (k - s) := by
  unfold nshift
  rw [co_plc h]
  unfold co
  exact sm_ext (fun j => by rw [show (j : Int) + s - k = j - (k - s) by omega]) _
/-- an odd number has an inverse modulo a power of 2 -/
theorem odd_inv {t : Int} (ht : t % 2 = 1) : ∀ m : Nat, ∃ u c : Int, t * u = 1 + 2 ^ m * c
  | 0 => ⟨1, t - 1, by rw [Int.pow_zero]; omega⟩
  | m + 1 => by
    obtain ⟨u, c, h⟩ := odd_inv ht m
    obtain ⟨d, hd⟩ : ∃ d, t = 2 * d + 1 := ⟨t / 2, by omega⟩
    refine ⟨u + 2 ^ m * c, c * (d + 1), ?_⟩
    rw [Int.mul_add, h, Int.pow_succ]
    have e : t * (2 ^ m * c) = 2 ^ m * (t * c) := Int.mul_left_comm ..
    rw [e, hd, Int.add_mul, Int.one_mul, Int.mul_assoc (2 ^ m : Int) 2, Int.add_assoc, ← Int.mul_add]
    congr 2
    rw [Int.mul_add, Int.mul_one, Int.mul_add, Int.mul_assoc, Int.mul_comm d c]
    omega
theorem pow2_even {e : Nat} : (2 : Int) * ((2 ^ e : Nat) : Int) = 2 ^ (e + 1) := by
  rw [Int.natCast_pow, Int.pow_succ, Int.mul_comm]; rfl
theorem odd_cancel {e : Nat} {t x : Int} (ht : t % 2 = 1) (h : (x * t) % ((2 ^ e : Nat) : Int) = 0) : x % ((2 ^ e : Nat) : Int) = 0 := by
  obtain ⟨u, c, hu⟩ := odd_inv ht e
  have e1 : x = (x * t) * u + ((2 ^ e : Nat) : Int) * (-(x * c)) := by
    rw [Int.mul_assoc, hu, Int.natCast_pow, Int.mul_add, Int.mul_one, Int.mul_neg]
    have : x * (2 ^ e * c) = 2 ^ e * (x * c) := Int.mul_left_comm ..
    have p : ((2 : Nat) : Int) ^ e = 2 ^ e := rfl
    rw [this, p]; omega
  rw [e1, Int.add_mul_emod_self_left, Int.mul_emod, h, Int.zero_mul, Int.zero_emod]
theorem turn_ne {e : Nat} {t : Int} (ht : t % 2 = 1) {i j : Nat} (hi : i < 2 ^ e) (hj : j < 2 ^ e) (ne : i ≠ j) : ((i : Int) * t - j * t) % ((2 ^ e : Nat) : Int) ≠ 0 := fun h => by
  rw [← Int.sub_mul] at h
  have z := odd_cancel ht h
  have p : 0 < 2 ^ e := Nat.two_pow_pos e
  generalize 2 ^ e = n at *
  have := Int.mul_ediv_add_emod ((i : Int) - j) n
  rw [z] at this
  by_cases q : ((i : Int) - j) / n = 0
  · rw [q] at this; omega
  · by_cases qp : 0 < ((i : Int) - j) / n
    · have : (n : Int) * 1 ≤ n * (((i : Int) - j) / n) := Int.mul_le_mul_of_nonneg_left (by omega) (by omega)
      omega
    · have : (n : Int) * (((i : Int) - j) / n) ≤ n * (-1) := Int.mul_le_mul_of_nonneg_left (by omega) (by omega)
      omega
theorem co_nturn {a : List Int} {e : Nat} (hl : a.length = 2 ^ e) {t : Int} (ht : t % 2 = 1) (k : Int) : co (nturn a t) (k * t) = co a k := by
  have hn : 0 < a.length := by rw [hl]; exact Nat.two_pow_pos e
  obtain ⟨d, hd⟩ : ∃ d, t = 2 * d + 1 := ⟨t / 2, by omega⟩
  refine Ap.ext hn (f := fun k => co (nturn a t) (k * t)) (fun k => ?_) (co_ap hn) (fun i hi => ?_) k
  · show co (nturn a t) ((k + a.length) * t) = -co (nturn a t) (k * t)
    have e1 : (k + (a.length : Int)) * t = k * t + a.length + 2 * (a.length : Int) * d := by
      rw [Int.add_mul, hd, Int.mul_add (a.length : Int), Int.mul_one, ← Int.mul_assoc, Int.mul_comm (a.length : Int) 2]; omega
    have c1 := co_per (a := nturn a t) (k * t + a.length) d
    have c2 := co_add (a := nturn a t) (by simpa using hn) (k * t)
    rw [nturn_len] at c1 c2
    rw [e1, c1, c2]
  · show co (nturn a t) ((i : Int) * t) = co a i
    unfold nturn
    rw [co_plc hn, co_at hi, sm_one hi fun j hj ne => ?_, show (i : Int) * t - i * t = 0 by omega, dl_zero, Int.one_mul]
    have ne2 : ((j : Int) * t - i * t) % (a.length : Int) ≠ 0 := by
      rw [hl]
      exact turn_ne ht (by omega) (by omega) ne
    have d0 : dl a.length ((j : Int) * t - i * t) = 0 := by
      unfold dl
      have d : ∀ x : Int, x % (2 * a.length) = 0 ∨ x % (2 * a.length) = a.length → x % a.length = 0 := fun x hx => by
        have h4 := Int.mul_ediv_add_emod x (2 * a.length)
        rcases hx with hx | hx
        · rw [hx] at h4
          rw [← h4, Int.add_zero, Int.mul_comm 2, Int.mul_assoc, Int.mul_emod_right]
        · rw [hx] at h4
          rw [← h4, show 2 * (a.length : Int) * (x / (2 * a.length)) + a.length = a.length * (2 * (x / (2 * a.length)) + 1) by rw [Int.mul_add, Int.mul_one, ← Int.mul_assoc, Int.mul_comm (a.length : Int) 2], Int.mul_emod_right]
      rw [if_neg fun q => ne2 (d _ (.inl q)), if_neg fun q => ne2 (d _ (.inr q))]
    rw [d0, Int.zero_mul]
/-- two polynomials that agree at all multiples of an odd number -/
theorem turn_ext {a b : List Int} {e : Nat} (ha : a.length = 2 ^ e) (hb : b.length = 2 ^ e) {t : Int} (ht : t % 2 = 1) (h : ∀ k, co a (k * t) = co b (k * t)) : a = b := by
  refine co_ext (by omega) fun i _ => ?_
  obtain ⟨u, c, hu⟩ := odd_inv ht (e + 1)
  have e1 : (i : Int) * u * t = i + 2 * ((2 ^ e : Nat) : Int) * (i * c) := by
    rw [Int.mul_assoc, Int.mul_comm u, hu, pow2_even, Int.mul_add, Int.mul_one]
    congr 1
    exact Int.mul_left_comm ..
  have k1 := h ((i : Int) * u)
  rw [e1] at k1
  have c1 := co_per (a := a) i (i * c)
  have c2 := co_per (a := b) i (i * c)
  rw [ha] at c1
  rw [hb] at c2
  rw [← c1, ← c2, k1]
theorem turn_turn {a : List Int} {e : Nat} (hl : a.length = 2 ^ e) {k l : Int} (hk : k % 2 = 1) (h2 : l % 2 = 1) : nturn (nturn a k) l = nturn a (k * l) := by
  have hkl : (k * l) % 2 = 1 := by
    obtain ⟨c, hc⟩ : ∃ c, k = 2 * c + 1 := ⟨k / 2, by omega⟩
    rw [hc, Int.add_mul, Int.one_mul, Int.mul_assoc]; omega
  refine turn_ext (by simpa using hl) (by simpa using hl) hkl fun j => ?_
  rw [co_nturn hl hkl, ← Int.mul_assoc, co_nturn (by simpa using hl) h2, co_nturn hl hk]
theorem turn_per {a : List Int} {t l : Int} : nturn a (t + 2 * a.length * l) = nturn a t := by
  unfold nturn plc
  refine tab_congr fun p _ => sm_ext (fun j => ?_) _
  rw [dl_cong (x := (j : Int) * (t + 2 * a.length * l) - p) (y := j * t - p) (c := j * l)]
  rw [Int.mul_add, Int.mul_left_comm]; omega
theorem shift_per {a : List Int} {s l : Int} : nshift a (s + 2 * a.length * l) = nshift a s := by
  unfold nshift plc
  refine tab_congr fun p _ => sm_ext (fun j => ?_) _
  rw [dl_cong (x := (j : Int) + (s + 2 * a.length * l) - p) (y := j + s - p) (c := l)]
  omega
theorem shift_back {a : List Int} (h : 0 < a.length) {s : Int} : nshift (nshift a s) (-s) = a := by
  refine co_ext (by simp) fun i _ => ?_
  rw [co_nshift (by simpa using h), co_nshift h]
  congr 1; omega
/-- products turned -/
theorem turn_mul {a b : List Int} {e : Nat} (ha : a.length = 2 ^ e) (hb : b.length = 2 ^ e) {t : Int} (ht : t % 2 = 1) : nturn (nmul a b) t = nmul (nturn a t) (nturn b t) := by
  have hn : 0 < a.length := by rw [ha]; exact Nat.two_pow_pos e
  refine turn_ext (e := e) (by simpa using ha) (by simpa using ha) ht fun k => ?_
  rw [co_nturn (by simpa using ha) ht, co_nmul' hn (by omega), co_nmul' (by simpa using hn) (by simp; omega), nturn_len]
  -- the sum over the other places
  obtain ⟨u, c, hu⟩ := odd_inv ht e
  have hnn : (0 : Int) < (a.length : Int) := by omega
  have per : ∀ (j c : Int), co (nturn a t) (j + a.length * c) * co (nturn b t) (k * t - (j + a.length * c)) = co (nturn a t) j * co (nturn b t) (k * t - j) := fun j c => by
    have ap1 : Ap a.length (co (nturn a t)) := by have := co_ap (a := nturn a t) (by simpa using hn); rwa [nturn_len] at this
    have ap2 : Ap a.length (co (nturn b t)) := by have := co_ap (a := nturn b t) (by simp; omega); rwa [nturn_len, hb, ← ha] at this
    have step : ∀ j : Int, co (nturn a t) (j + a.length) * co (nturn b t) (k * t - (j + a.length)) = co (nturn a t) j * co (nturn b t) (k * t - j) := fun j => by
      have q := ap2 (k * t - (j + a.length))
      rw [show k * t - (j + (a.length : Int)) + a.length = k * t - j by omega] at q
      rw [ap1, q, Int.mul_neg, Int.neg_mul]
    have nat : ∀ (m : Nat) (j : Int), co (nturn a t) (j + a.length * m) * co (nturn b t) (k * t - (j + a.length * m)) = co (nturn a t) j * co (nturn b t) (k * t - j) := fun m => by
      induction m with
      | zero => intro j; simp
      | succ m ih =>
        intro j
        rw [show j + (a.length : Int) * ((m + 1 : Nat) : Int) = j + a.length * m + a.length by rw [Int.natCast_add, Int.mul_add]; omega, step, ih]
    by_cases hc : 0 ≤ c
    · have := nat c.toNat j
      rwa [Int.toNat_of_nonneg hc] at this
    · have := nat (-c).toNat (j + a.length * c)
      rw [Int.toNat_of_nonneg (by omega), show j + (a.length : Int) * c + a.length * -c = j by rw [Int.mul_neg]; omega] at this
      exact this.symm
  have perm := sm_perm (n := a.length) (fun i => (((i : Int) * t) % a.length).toNat) (fun j => (((j : Int) * u) % a.length).toNat) (fun i _ => ?_) (fun j hj => ⟨?_, ?_⟩) (fun i j hi hj h => ?_) (fun j => co (nturn a t) j * co (nturn b t) (k * t - j))
  · rw [← perm]
    refine sm_ext (fun i => ?_) _
    have h1 := Int.emod_nonneg ((i : Int) * t) (show (a.length : Int) ≠ 0 by omega)
    have h3 := Int.mul_ediv_add_emod ((i : Int) * t) a.length
    have q := per (((i : Int) * t) % a.length) (((i : Int) * t) / a.length)
    rw [show ((i : Int) * t) % a.length + a.length * (((i : Int) * t) / a.length) = i * t by omega] at q
    rw [Int.toNat_of_nonneg h1, ← q, co_nturn ha ht, ← Int.sub_mul, co_nturn hb ht]
  · have h1 := Int.emod_nonneg ((i : Int) * t) (show (a.length : Int) ≠ 0 by omega)
    have h2 := Int.emod_lt_of_pos ((i : Int) * t) hnn
    omega
  · have h1 := Int.emod_nonneg ((j : Int) * u) (show (a.length : Int) ≠ 0 by omega)
    have h2 := Int.emod_lt_of_pos ((j : Int) * u) hnn
    omega
  · show ((((((j : Int) * u) % a.length).toNat : Nat) : Int) * t % a.length).toNat = j
    have h1 := Int.emod_nonneg ((j : Int) * u) (show (a.length : Int) ≠ 0 by omega)
    rw [Int.toNat_of_nonneg h1]
    have e1 : ((j : Int) * u % a.length) * t % a.length = j := by
      rw [Int.mul_emod, Int.emod_emod_of_dvd _ (Int.dvd_refl _), ← Int.mul_emod, Int.mul_assoc, Int.mul_comm u, hu, Int.mul_add, Int.mul_one]
      have p : (2 : Int) ^ e = (a.length : Int) := by rw [ha, Int.natCast_pow]; rfl
      rw [p, Int.mul_left_comm, Int.add_mul_emod_self_left, Int.emod_eq_of_lt (by omega) (by omega)]
    rw [e1]; omega
  · have h' : (((i : Int) * t) % a.length).toNat = (((j : Int) * t) % a.length).toNat := h
    have h1 := Int.emod_nonneg ((i : Int) * t) (show (a.length : Int) ≠ 0 by omega)
    have h2 := Int.emod_nonneg ((j : Int) * t) (show (a.length : Int) ≠ 0 by omega)
    by_cases ne : i = j
    · exact ne
    · exfalso
      have z := turn_ne (e := e) ht (i := i) (j := j) (by omega) (by omega) ne
      rw [← ha] at z
      apply z
      rw [Int.sub_emod, show (i : Int) * t % a.length = j * t % a.length by omega, Int.sub_self, Int.zero_emod]
end VT
/-! VRing2: norms; the ring's laws. -/
namespace VT
open PySem hiding Env
open VL Enc
/-! ### absolute values -/
theorem iabs_nn (x : Int) : 0 ≤ iabs x := by unfold iabs; split <;> omega
theorem iabs_le {x m : Int} : iabs x ≤ m ↔ -m ≤ x ∧ x ≤ m := by unfold iabs; split <;> omega
theorem iabs_le_self (x : Int) : x ≤ iabs x := by unfold iabs; split <;> omega
theorem iabs_neg (x : Int) : iabs (-x) = iabs x := by unfold iabs; split <;> split <;> omega
theorem iabs_add (x y : Int) : iabs (x + y) ≤ iabs x + iabs y := by unfold iabs; split <;> split <;> split <;> omega
theorem iabs_natAbs (x : Int) : iabs x = (x.natAbs : Int) := by unfold iabs; split <;> omega
theorem iabs_mul (x y : Int) : iabs (x * y) = iabs x * iabs y := by
  simp only [iabs_natAbs, Int.natAbs_mul, Int.natCast_mul]
theorem iabs_of_nn {x : Int} (h : 0 ≤ x) : iabs x = x := by unfold iabs; split <;> omega
theorem iabs_idem (x : Int) : iabs (iabs x) = iabs x := iabs_of_nn (iabs_nn x)
theorem iabs_sm (f : Nat → Int) : ∀ n : Nat, iabs (sm n f) ≤ sm n fun i => iabs (f i)
  | 0 => Int.le_refl _
  | n + 1 => Int.le_trans (iabs_add _ _) (Int.add_le_add_right (iabs_sm f n) _)
theorem sm_const (c : Int) : ∀ n : Nat, sm n (fun _ => c) = n * c
  | 0 => by simp [sm]
  | n + 1 => by
    show sm n (fun _ => c) + c = _
    rw [sm_const c n, show ((n + 1 : Nat) : Int) = n + 1 by omega, Int.add_mul, Int.one_mul]
theorem sm_ge {f : Nat → Int} {k : Nat} : ∀ {n : Nat}, k < n → (∀ i, i < n → 0 ≤ f i) → f k ≤ sm n f
  | 0, h, _ => absurd h (by omega)
  | n + 1, h, z => by
    show f k ≤ sm n f + f n
    by_cases hk : k = n
    · subst hk
      have := sm_pos (n := k) fun i hi => z i (by omega)
      omega
    · have := sm_ge (f := f) (k := k) (n := n) (by omega) fun i hi => z i (by omega)
      have := z n (by omega)
      omega
/-! ### the places of dl -/
theorem dl_abs {n : Nat} (hn : 0 < n) (x : Int) : iabs (dl n x) = if x % n = 0 then 1 else 0 := by
  have hd : (n : Int) ∣ 2 * n := ⟨2, Int.mul_comm _ _⟩
  have e : x % n = x % (2 * n) % n := (Int.emod_emod_of_dvd x hd).symm
  have a := Int.emod_nonneg x (show 2 * (n : Int) ≠ 0 by omega)
  have b := Int.emod_lt_of_pos x (show 0 < 2 * (n : Int) by omega)
  unfold dl
  rw [e]
  generalize x % (2 * (n : Int)) = y at *
  by_cases h0 : y = 0
  · rw [if_pos h0, if_pos (by rw [h0]; simp)]; rfl
  · rw [if_neg h0]
    by_cases h1 : y = n
    · rw [if_pos h1, if_pos (by rw [h1]; simp)]; rfl
    · rw [if_neg h1, if_neg ?_]
      · rfl
      · by_cases h2 : y < n
        · rw [Int.emod_eq_of_lt a h2]; exact h0
        · have : y % n = y - n := by
            rw [show y = (y - n) + n by omega, Int.add_emod_right, Int.emod_eq_of_lt (by omega) (by omega)]; omega
          rw [this]; omega
theorem sm_adl {n : Nat} (hn : 0 < n) (k : Int) : sm n (fun p => iabs (dl n (k - p))) = 1 := by
  have a := Int.emod_nonneg k (show (n : Int) ≠ 0 by omega)
  have b := Int.emod_lt_of_pos k (show 0 < (n : Int) by omega)
  obtain ⟨r, hr⟩ : ∃ r : Nat, k % n = r := ⟨(k % n).toNat, by omega⟩
  have hk := Int.mul_ediv_add_emod k n
  have z : ∀ i : Nat, i < n → (k - i) % n = 0 → i = r := fun i hi h => by
    have h2 : k % n = i := by
      rw [show k = (k - i) + i by omega, Int.add_emod, h, Int.zero_add, Int.emod_emod, Int.emod_eq_of_lt (by omega) (by omega)]
    omega
  rw [sm_one (k := r) (by omega) fun i hi ne => by rw [dl_abs hn, if_neg fun h => ne (z i hi h)], dl_abs hn, if_pos]
  rw [← hr, show k - k % n = n * (k / n) by omega]
  exact Int.mul_emod_right _ _
theorem sm_adl' {n : Nat} (hn : 0 < n) (k : Int) : sm n (fun p => iabs (dl n (p - k))) = 1 := by
  rw [← sm_adl hn k]
  refine sm_congr fun i _ => ?_
  rw [dl_abs hn, dl_abs hn, show k - (i : Int) = -((i : Int) - k) by omega]
  have : ((i : Int) - k) % n = 0 ↔ (-((i : Int) - k)) % n = 0 := by
    rw [← Int.dvd_iff_emod_eq_zero, ← Int.dvd_iff_emod_eq_zero, Int.dvd_neg]
  by_cases h : ((i : Int) - k) % n = 0
  · rw [if_pos h, if_pos (this.mp h)]
  · rw [if_neg h, if_neg fun q => h (this.mpr q)]
/-! ### norms -/
def n1 (a : List Int) : Int := sm a.length fun i => iabs (at0 a i)
/-- every item is at most m -/
def Nb (a : List Int) (m : Int) : Prop := ∀ i, i < a.length → iabs (at0 a i) ≤ m
theorem n1_nn (a : List Int) : 0 ≤ n1 a := sm_pos fun i _ => iabs_nn _
theorem n1_tab {n : Nat} {f : Nat → Int} : n1 (tab n f) = sm n fun i => iabs (f i) := by
  unfold n1
  rw [tab_len]
  exact sm_congr fun i hi => by rw [tab_at hi]
theorem plc_n1 {n : Nat} (hn : 0 < n) (a : List Int) (q : Nat → Int) (m : Nat) : n1 (plc n a q m) ≤ sm m fun i => iabs (at0 a i) := by
  unfold plc
  rw [n1_tab]
  refine Int.le_trans (sm_le fun p _ => iabs_sm _ m) ?_
  rw [sm_comm]
  refine Int.le_of_eq (sm_congr fun j _ => ?_)
  rw [show (fun p : Nat => iabs (dl n (q j - p) * at0 a j)) = fun p : Nat => iabs (dl n (q j - p)) * iabs (at0 a j) from funext fun p => iabs_mul _ _, sm_mulr, sm_adl hn, Int.one_mul]
theorem shift_n1 {a : List Int} (h : 0 < a.length) (s : Int) : n1 (nshift a s) = n1 a := by
  refine Int.le_antisymm (plc_n1 h _ _ _) ?_
  have e := plc_n1 (n := a.length) h (nshift a s) (fun i => (i : Int) + -s) a.length
  have b := shift_back h (s := s)
  unfold nshift at b e ⊢
  rw [plc_len] at b
  rw [b] at e
  unfold n1
  rw [plc_len]
  exact e
theorem turn_back {a : List Int} {e : Nat} (hl : a.length = 2 ^ e) {t : Int} (ht : t % 2 = 1) : ∃ u : Int, u % 2 = 1 ∧ nturn (nturn a t) u = a := by
  obtain ⟨u, c, hu⟩ := odd_inv ht (e + 1)
  have h2 : u % 2 = 1 := by
    have p : (2 : Int) ^ (e + 1) * c = 2 * (2 ^ e * c) := by rw [Int.pow_succ, Int.mul_comm (2 ^ e) 2, Int.mul_assoc]
    have q : t * u % 2 = 1 := by rw [hu, p]; omega
    rcases (by omega : u % 2 = 0 ∨ u % 2 = 1) with h | h
    · rw [Int.mul_emod, h] at q; simp at q
    · exact h
  refine ⟨u, h2, ?_⟩
  have z : 0 < a.length := by rw [hl]; exact Nat.two_pow_pos e
  rw [turn_turn hl ht h2, hu]
  have e1 : (1 : Int) + 2 ^ (e + 1) * c = 1 + 2 * a.length * c := by rw [hl, ← pow2_even]
  rw [e1, turn_per]
  refine co_ext (nturn_len) fun i hi => ?_
  unfold nturn
  rw [co_plc z]
  unfold co
  refine sm_congr fun j _ => ?_
  rw [Int.mul_one]
theorem turn_n1 {a : List Int} {e : Nat} (hl : a.length = 2 ^ e) {t : Int} (ht : t % 2 = 1) : n1 (nturn a t) = n1 a := by
  have h : 0 < a.length := by rw [hl]; exact Nat.two_pow_pos e
  refine Int.le_antisymm (plc_n1 h _ _ _) ?_
  obtain ⟨u, hu, b⟩ := turn_back hl ht
  have q := plc_n1 (n := a.length) h (nturn a t) (fun i => (i : Int) * u) a.length
  have q2 : n1 (nturn (nturn a t) u) ≤ n1 (nturn a t) := by
    unfold n1 at q ⊢
    unfold nturn at q ⊢
    simp only [plc_len] at q ⊢
    exact q
  rw [b] at q2
  exact q2
theorem co_nb {a : List Int} {m : Int} (h : 0 < a.length) (hb : Nb a m) (k : Int) : iabs (co a k) ≤ m := by
  unfold co
  refine Int.le_trans (iabs_sm _ _) ?_
  refine Int.le_trans (sm_le (g := fun j => iabs (dl a.length (j - k)) * m) fun j hj => ?_) ?_
  · rw [iabs_mul]
    exact Int.mul_le_mul_of_nonneg_left (hb j hj) (iabs_nn _)
  · rw [sm_mulr, sm_adl' h, Int.one_mul]; exact Int.le_refl _
theorem shift_nb {a : List Int} {m : Int} (h : 0 < a.length) {s : Int} : Nb (nshift a s) m ↔ Nb a m := by
  have one : ∀ {b : List Int} {s : Int}, 0 < b.length → Nb b m → Nb (nshift b s) m := fun {b s} hz hb i hi => by
    rw [nshift_len] at hi
    rw [← co_at (by rw [nshift_len]; exact hi), co_nshift hz]
    exact co_nb hz hb _
  refine ⟨fun hb => ?_, one h⟩
  have := one (s := -s) (by rw [nshift_len]; exact h) hb
  rwa [shift_back h] at this
theorem turn_nb {a : List Int} {e : Nat} {m : Int} (hl : a.length = 2 ^ e) {t : Int} (ht : t % 2 = 1) : Nb (nturn a t) m ↔ Nb a m := by
  have one : ∀ {b : List Int} {t : Int}, b.length = 2 ^ e → t % 2 = 1 → Nb b m → Nb (nturn b t) m := fun {b t} hz ht hb i hi => by
    have hp : 0 < b.length := by rw [hz]; exact Nat.two_pow_pos e
    obtain ⟨u, hu, bk⟩ := turn_back hz ht
    have z := co_nturn hz ht (i * u)
    obtain ⟨u', c, hu'⟩ := odd_inv ht (e + 1)
    have z2 := co_nturn hz ht (i * u')
    rw [nturn_len] at hi
    rw [Int.mul_assoc, Int.mul_comm u' t, hu', Int.mul_add, Int.mul_one, ← pow2_even, ← hz] at z2
    have z3 := co_per (a := nturn b t) i (c * i)
    rw [nturn_len] at z3
    rw [← co_at (by rw [nturn_len]; exact hi), ← z3]
    have e1 : (i : Int) + 2 * b.length * (c * i) = i + i * (2 * b.length * c) := by
      rw [← Int.mul_assoc, Int.mul_comm (2 * (b.length : Int) * c) i]
    rw [e1, z2]
    exact co_nb hp hb _
  refine ⟨fun hb => ?_, one hl ht⟩
  obtain ⟨u, hu, bk⟩ := turn_back hl ht
  have := one (t := u) (by rw [nturn_len]; exact hl) hu hb
  rwa [bk] at this
/-! ### products -/
theorem nmul_abs {a b : List Int} (p : Nat) (hp : p < a.length) : iabs (at0 (nmul a b) p) ≤ sm a.length fun i => sm a.length fun j => iabs (dl a.length (i + j - p)) * (iabs (at0 a i) * iabs (at0 b j)) := by
  unfold nmul
  rw [tab_at hp]
  refine Int.le_trans (iabs_sm _ _) (sm_le fun i _ => Int.le_trans (iabs_sm _ _) (sm_le fun j _ => ?_))
  rw [iabs_mul, iabs_mul]
  exact Int.le_refl _
theorem mul_nb {a b : List Int} {m : Int} (h : 0 < a.length) (hl : b.length = a.length) (hb : Nb b m) : Nb (nmul a b) (n1 a * m) := fun p hp => by
  rw [nmul_len] at hp
  refine Int.le_trans (nmul_abs p hp) ?_
  unfold n1
  rw [← sm_mulr]
  refine sm_le fun i hi => ?_
  refine Int.le_trans (sm_le (g := fun j => iabs (dl a.length (j - ((p : Int) - i))) * (iabs (at0 a i) * m)) fun j hj => ?_) ?_
  · rw [show (i : Int) + j - p = j - ((p : Int) - i) by omega]
    exact Int.mul_le_mul_of_nonneg_left (Int.mul_le_mul_of_nonneg_left (hb j (by omega)) (iabs_nn _)) (iabs_nn _)
  · rw [sm_mulr, sm_adl' h, Int.one_mul]; exact Int.le_refl _
theorem mul_n1 {a b : List Int} (h : 0 < a.length) (hl : b.length = a.length) : n1 (nmul a b) ≤ n1 a * n1 b := by
  unfold n1
  rw [nmul_len]
  refine Int.le_trans (sm_le fun p hp => nmul_abs p hp) ?_
  rw [sm_comm]
  rw [← sm_mulr]
  refine sm_le fun i _ => ?_
  rw [sm_comm, hl, ← sm_mul]
  refine sm_le fun j _ => ?_
  rw [sm_mulr, show (fun p : Nat => iabs (dl a.length ((i : Int) + j - p))) = fun p : Nat => iabs (dl a.length ((i + j : Int) - p)) from rfl, sm_adl h, Int.one_mul]
  exact Int.le_refl _
theorem n1_nb {a : List Int} {m : Int} (hb : Nb a m) : n1 a ≤ a.length * m := by
  rw [← sm_const]
  exact sm_le fun i hi => hb i hi
/-! ### the ring's laws -/
section
variable {a b c : List Int} {n : Nat}
def ladd (a b : List Int) : List Int := tab a.length fun i => at0 a i + at0 b i
@[simp] theorem ladd_len : (ladd a b).length = a.length := tab_len
theorem co_ladd (h : 0 < a.length) (hl : b.length = a.length) (k : Int) : co (ladd a b) k = co a k + co b k := by
  have := co_tab (n := a.length) h (f := fun k => co a k + co b k) (fun k => by
    have x := co_add h k
    have y := co_add (a := b) (by omega) k
    rw [hl] at y
    show co a (k + a.length) + co b (k + a.length) = -(co a k + co b k)
    rw [x, y]; omega) k
  rw [← this]
  unfold ladd
  congr 1
  refine tab_congr fun i hi => ?_
  rw [co_at hi, co_at (by omega)]
theorem at_ladd {i : Nat} (hi : i < a.length) : at0 (ladd a b) i = at0 a i + at0 b i := tab_at hi
theorem mul_addl (h : 0 < a.length) (hb : b.length = a.length) (hc : c.length = a.length) : nmul (ladd a b) c = ladd (nmul a c) (nmul b c) := by
  refine co_ext (by simp) fun k hk => ?_
  rw [co_ladd (by simpa using h) (by simp [hb]), co_nmul (by simpa using h) (by simpa using hc), co_nmul h hc, co_nmul (by omega) (by omega)]
  simp only [ladd_len, hb]
  rw [← sm_add]
  refine sm_congr fun i hi => ?_
  rw [at_ladd hi, Int.add_mul]
theorem mul_addr (h : 0 < a.length) (hb : b.length = a.length) (hc : c.length = a.length) : nmul a (ladd b c) = ladd (nmul a b) (nmul a c) := by
  refine co_ext (by simp) fun k hk => ?_
  rw [co_ladd (by simpa using h) (by simp), co_nmul h (by simpa using hb), co_nmul h hb, co_nmul h hc, ← sm_add]
  refine sm_congr fun i hi => ?_
  rw [co_ladd (by omega) (by omega), Int.mul_add]
/-- products over all places, from any side -/
theorem co_mul2 (h : 0 < a.length) (hb : b.length = a.length) (k : Int) : co (nmul a b) k = sm a.length fun i => sm a.length fun j => dl a.length (i + j - k) * (at0 a i * at0 b j) := by
  rw [co_nmul h hb]
  refine sm_congr fun i _ => ?_
  unfold co
  rw [hb, ← sm_mul]
  refine sm_congr fun j _ => ?_
  rw [show (j : Int) - (k - i) = i + j - k by omega, Int.mul_left_comm]
theorem mul_comm' (h : 0 < a.length) (hb : b.length = a.length) : nmul a b = nmul b a := by
  refine co_ext (by simp [hb]) fun k hk => ?_
  rw [co_mul2 h hb, co_mul2 (by omega) hb.symm, sm_comm, hb]
  refine sm_congr fun j _ => sm_congr fun i _ => ?_
  rw [Int.add_comm (i : Int) j, Int.mul_comm (at0 a i)]
theorem mul_assoc' (h : 0 < a.length) (hb : b.length = a.length) (hc : c.length = a.length) : nmul (nmul a b) c = nmul a (nmul b c) := by
  refine co_ext (by simp) fun k hk => ?_
  rw [mul_comm' (a := nmul a b) (b := c) (by simpa using h) (by simpa using hc), co_nmul (by omega) (by simp [hc]), co_nmul h (by simpa using hb)]
  have e1 : ∀ i : Nat, at0 c i * co (nmul a b) ((k : Int) - i) = sm a.length fun j => at0 c i * (at0 a j * co b ((k : Int) - i - j)) := fun i => by
    rw [co_nmul h hb, ← sm_mul]
  have e2 : ∀ j : Nat, at0 a j * co (nmul b c) ((k : Int) - j) = sm a.length fun i => at0 a j * (at0 c i * co b ((k : Int) - j - i)) := fun j => by
    rw [mul_comm' (a := b) (b := c) (by omega) (by omega), co_nmul (by omega) (by omega), hc, ← sm_mul]
  rw [sm_ext e1, sm_ext e2, hc, sm_comm]
  refine sm_congr fun j _ => sm_congr fun i _ => ?_
  rw [show (k : Int) - j - i = k - i - j by omega, Int.mul_left_comm]
/-- 1 -/
def one0 (n : Nat) : List Int := tab n fun i => if i = 0 then 1 else 0
@[simp] theorem one0_len {n : Nat} : (one0 n).length = n := tab_len
theorem one_mul' (h : 0 < a.length) : nmul (one0 a.length) a = a := by
  refine co_ext (by simp) fun k hk => ?_
  rw [co_nmul (by simpa using h) (by simp)]
  simp only [one0_len]
  rw [sm_one (k := 0) h fun i hi ne => by
    unfold one0
    rw [tab_at hi, if_neg ne, Int.zero_mul]]
  unfold one0
  rw [tab_at h, if_pos rfl, Int.one_mul]
  show co a ((k : Int) - 0) = _
  rw [Int.sub_zero]
def zer0 (n : Nat) : List Int := tab n fun _ => 0
@[simp] theorem zer0_len {n : Nat} : (zer0 n).length = n := tab_len
theorem at_zer0 {n i : Nat} : at0 (zer0 n) i = 0 := by
  by_cases h : i < n
  · exact tab_at h
  · unfold at0
    rw [List.getD_eq_getElem?_getD, List.getElem?_eq_none (by simpa using h)]; rfl
theorem ladd_zero : ladd (zer0 a.length) a = a := by
  refine list_ext0 (by simp) fun i hi => ?_
  rw [at_ladd (by simpa using hi), at_zer0, Int.zero_add]
theorem ladd_comm (hb : b.length = a.length) : ladd a b = ladd b a := by
  refine list_ext0 (by simp [hb]) fun i hi => ?_
  have hi : i < a.length := by simpa using hi
  rw [at_ladd hi, at_ladd (by omega), Int.add_comm]
theorem ladd_assoc (hb : b.length = a.length) : ladd (ladd a b) c = ladd a (ladd b c) := by
  refine list_ext0 (by simp) fun i hi => ?_
  have hi : i < a.length := by simpa using hi
  rw [at_ladd (by simpa using hi), at_ladd hi, at_ladd hi, at_ladd (by omega), Int.add_assoc]
theorem zero_mul' (h : 0 < a.length) : nmul (zer0 a.length) a = zer0 a.length := by
  refine list_ext0 (by simp) fun i hi => ?_
  have hi : i < a.length := by simpa using hi
  unfold nmul
  rw [tab_at (by simpa using hi), at_zer0]
  exact sm_zero fun i _ => sm_zero fun j _ => by rw [at_zer0, Int.zero_mul, Int.mul_zero]
end
/-! ### the greatest -/
theorem maxL_ge : ∀ {l : List Int} {x : Int}, x ∈ l → x ≤ maxL l
  | [a], x, h => by
    obtain rfl : x = a := by simpa using h
    exact Int.le_refl _
  | a :: b :: r, x, h => by
    have ih := fun y hy => maxL_ge (l := b :: r) (x := y) hy
    unfold maxL
    rcases List.mem_cons.mp h with rfl | h
    · split <;> omega
    · have := ih x h
      split <;> omega
theorem maxL_mem : ∀ {l : List Int}, l ≠ [] → maxL l ∈ l
  | [a], _ => by simp [maxL]
  | a :: b :: r, _ => by
    have ih := maxL_mem (l := b :: r) (by simp)
    unfold maxL
    split
    · exact List.mem_cons_of_mem _ ih
    · exact List.mem_cons_self ..
/-- the greatest absolute value -/
def nm (a : List Int) : Int := maxL (a.map iabs)
theorem imaxL_ok {l : List Int} (h : l ≠ []) : imaxL l = .ok (maxL l) := by
  cases l with
  | nil => exact absurd rfl h
  | cons a r => unfold imaxL; rfl
theorem nm_le {a : List Int} {m : Int} (h : a ≠ []) : nm a ≤ m ↔ Nb a m := by
  unfold nm
  constructor
  · intro hm i hi
    refine Int.le_trans (maxL_ge ?_) hm
    exact List.mem_map_of_mem (f := iabs) (List.mem_of_getElem? (get_at0 hi))
  · intro hb
    obtain ⟨x, hx, e⟩ := List.mem_map.mp (maxL_mem (l := a.map iabs) (by simpa using h))
    obtain ⟨i, hi⟩ := List.getElem?_of_mem hx
    rw [← e, ← at0_some hi]
    exact hb i (List.getElem?_eq_some_iff.mp hi).1
theorem nm_nb {a : List Int} (h : a ≠ []) : Nb a (nm a) := (nm_le h).mp (Int.le_refl _)
theorem nm_eq {a b : List Int} (ha : a ≠ []) (hb : b ≠ []) (h : ∀ m, Nb a m ↔ Nb b m) : nm a = nm b :=
  Int.le_antisymm ((nm_le ha).mpr ((h _).mpr (nm_nb hb))) ((nm_le hb).mpr ((h _).mp (nm_nb ha)))
theorem sum_map {a : List Int} {g : Int → Int} : (a.map g).sum = sm a.length fun i => g (at0 a i) := by
  have key : ∀ l : List Int, ∀ k : Int, (l.map g).foldr (· + ·) 0 = sm l.length fun i => g (at0 l i) := by
    intro l
    induction l with
    | nil => intro _; rfl
    | cons x l ih =>
      intro k
      show g x + (l.map g).foldr (· + ·) 0 = sm (l.length + 1) _
      rw [ih k]
      have e : ∀ n : Nat, ∀ f : Nat → Int, sm (n + 1) f = f 0 + sm n fun i => f (i + 1) := by
        intro n f
        induction n with
        | zero => show 0 + f 0 = f 0 + 0; omega
        | succ n ih =>
          show sm (n + 1) f + f (n + 1) = f 0 + (sm n (fun i => f (i + 1)) + f (n + 1))
          rw [ih]; omega
      rw [e]
      rfl
  rw [List.sum_eq_foldr, key a 0]
theorem n1_sum (a : List Int) : (a.map iabs).sum = n1 a := sum_map
/-! loops that fold -/
theorem tFor_fold {α σ β ρ : Type} {f : α → σ → TF σ σ ρ} (g : σ → α → σ) (P : Nat → σ → Prop) {xs : List α} {s : σ} (h : P 0 s) (st : ∀ i x s, xs[i]? = some x → P i s → (f x s = .nx (g s x) ∨ f x s = .ct (g s x)) ∧ P (i + 1) (g s x)) : (tFor xs s f : TF β σ ρ) = .nx (xs.foldl g s) := by
  have key : ∀ (l : List α) (k : Nat) (s : σ), (∀ i x, l[i]? = some x → xs[k + i]? = some x) → P k s → (tFor l s f : TF β σ ρ) = .nx (l.foldl g s) := by
    intro l
    induction l with
    | nil => intro k s _ _; exact tf_nil
    | cons x l ih =>
      intro k s hx hp
      obtain ⟨e, hp'⟩ := st k x s (hx 0 x rfl) hp
      have r := ih (k + 1) (g s x) (fun i y hy => by
        have := hx (i + 1) y (by simpa using hy)
        rwa [show k + (i + 1) = k + 1 + i by omega] at this) hp'
      rcases e with e | e
      · rw [tf_nx e]; exact r
      · rw [tf_ct e]; exact r
  exact key xs 0 s (fun i x hx => by rwa [Nat.zero_add]) h
theorem Sm.ex {α δ : Type} {e : α → δ} {d : Res δ} {r : Res α} {er : Er} (s : Sm e d r) (h : r = .exc er) : d = .exc er := by rw [h] at s; exact s
theorem Sm.va {α δ : Type} {e : α → δ} {d : Res δ} {r : Res α} {x : α} (s : Sm e d r) (h : r = .ok x) : d = .ok (e x) := by rw [h] at s; exact s
theorem items_lst {α : Type} [Enc α] {xs : List α} : itemsD (Enc.enc xs) = .ok (xs.map enc) := rfl
theorem n1_ladd {a b : List Int} (h : b.length = a.length) : n1 (ladd a b) ≤ n1 a + n1 b := by
  unfold n1
  rw [ladd_len, h, ← sm_add]
  refine sm_le fun i hi => ?_
  rw [at_ladd hi]
  exact iabs_add _ _
theorem n1_at {a : List Int} {i : Nat} (h : i < a.length) : iabs (at0 a i) ≤ n1 a := sm_ge (f := fun i => iabs (at0 a i)) h fun i _ => iabs_nn _
/-- items of at most k bits, all together -/
theorem Sz.of_n1 {a : List Int} {k : Nat} (h : Sz k (n1 a)) : ∀ x ∈ a, Sz k x := fun x hx => by
  obtain ⟨i, hi⟩ := List.getElem?_of_mem hx
  have e := at0_some hi
  have q := n1_at (List.getElem?_eq_some_iff.mp hi).1
  rw [e] at q
  exact Sz.le h (by rw [iabs_natAbs] at q; have := n1_nn a; omega)
theorem Sz.mul_n1 {a b : List Int} {k l : Nat} (ha : Sz k (n1 a)) (hb : Sz l (n1 b)) (h : 0 < a.length) (hl : b.length = a.length) : Sz (k + l) (n1 (nmul a b)) :=
  Sz.of_range (Sz.mul ha hb) (n1_nn _) (VT.mul_n1 h hl)
theorem Sz.add_n1 {a b : List Int} {k : Nat} (ha : Sz k (n1 a)) (hb : Sz k (n1 b)) (hl : b.length = a.length) : Sz (k + 1) (n1 (ladd a b)) :=
  Sz.of_range (Sz.add ha hb) (n1_nn _) (n1_ladd hl)
theorem nb_mem {a : List Int} {m : Int} : Nb a m ↔ ∀ x ∈ a, -m ≤ x ∧ x ≤ m := by
  constructor
  · intro h x hx
    obtain ⟨i, hi⟩ := List.getElem?_of_mem hx
    have := h i (List.getElem?_eq_some_iff.mp hi).1
    rw [at0_some hi, iabs_le] at this
    exact this
  · intro h i hi
    rw [iabs_le]
    exact h _ (List.mem_of_getElem? (get_at0 hi))
end VT
namespace K03
open PySem VL
/-! def check_modulus(k), line 7: slots 0 k -/
noncomputable def b_check_modulus : VL.Env → Fl :=
 (sIf (qB (dOp2 opLt (dVar 0) (dLit (.int 1))))
 (sRaise .range)
 sNext)
noncomputable def f_check_modulus : List D → Res D := mkFn 1 1 b_check_modulus
/-! def check_digits(base, count), line 19: slots 0 base, 1 count -/
noncomputable def b_check_digits : VL.Env → Fl :=
 (sSeq (sIf (qB (dOp2 opLt (dVar 0) (dLit (.int 3))))
 (sRaise .range)
 sNext)
 (sIf (qNot (qB (dChain opLe opLe (dLit (.int 0)) (dVar 1) (dLit (.int 4096)))))
 (sRaise .range)
 sNext))
noncomputable def f_check_digits : List D → Res D := mkFn 2 2 b_check_digits
/-! def check_size(size), line 33: slots 0 size -/
noncomputable def b_check_size : VL.Env → Fl :=
 (sIf (qOr (qNot (qB (dChain opLe opLe (dLit (.int 1)) (dVar 0) (dLit (.int 1024))))) (qB (dOp2 opNe (dOp2 opAnd (dVar 0) (dOp2 opSub (dVar 0) (dLit (.int 1)))) (dLit (.int 0)))))
 (sRaise .range)
 sNext)
noncomputable def f_check_size : List D → Res D := mkFn 1 1 b_check_size
/-! def _law_cell(script, k), line 128: slots 0 script, 1 k -/
noncomputable def b__law_cell : VL.Env → Fl :=
 (sSeq (sIf (qB (dOp2 opLt (dVar 1) (dCall fLen (aCons (dVar 0) aNil))))
 (sRet (dCall fInt (aCons (dOp2 opIx (dVar 0) (dVar 1)) aNil)))
 sNext)
 (sRet (dLit (.int 0))))
noncomputable def f__law_cell : List D → Res D := mkFn 2 2 b__law_cell
/-! def _law_mixed(cell, k), line 132: slots 0 cell, 1 k, 2 x -/
noncomputable def b__law_mixed : VL.Env → Fl :=
 (sSeq (sAsg (dOp2 opMod (dOp2 opAdd (dOp2 opAdd (dOp2 opMul (dCall fInt (aCons (dVar 0) aNil)) (dLit (.int 48271))) (dOp2 opMul (dVar 1) (dLit (.int 69621)))) (dLit (.int 7))) (dLit (.int 2147483647))) (bName 2))
 (sSeq (sAsg (dOp2 opMod (dOp2 opAdd (dOp2 opAdd (dOp2 opMul (dVar 2) (dVar 2)) (dOp2 opMul (dVar 1) (dLit (.int 40692)))) (dLit (.int 3))) (dLit (.int 2147483629))) (bName 2))
 (sSeq (sAsg (dOp2 opMod (dOp2 opAdd (dOp2 opAdd (dOp2 opMul (dVar 2) (dVar 2)) (dOp2 opMul (dVar 1) (dLit (.int 30269)))) (dLit (.int 5))) (dLit (.int 2147483587))) (bName 2))
 (sRet (dOp2 opDiv (dVar 2) (dLit (.int 64)))))))
noncomputable def f__law_mixed : List D → Res D := mkFn 2 3 b__law_mixed
/-! def _law_integer(actual), line 137: slots 0 actual -/
noncomputable def b__law_integer : VL.Env → Fl :=
 (sRet (dAnd (dOp1 (opIsTy "int") (dVar 0)) (dNot (dOp1 (opIsTy "bool") (dVar 0)))))
noncomputable def f__law_integer : List D → Res D := mkFn 1 1 b__law_integer
/-! def _law_times(a, b), line 163: slots 0 a, 1 b, 2 size, 3 full, 4 i, 5 j, 6 k -/
noncomputable def w__law_times_0 : VL.Env → Fl :=
 (sSet 3 (dOp2 opAdd (dVar 4) (dVar 5)) (dOp2 opAdd (ixAt 3 (dOp2 opAdd (dVar 4) (dVar 5))) (dOp2 opMul (dOp2 opIx (dVar 0) (dVar 4)) (dOp2 opIx (dVar 1) (dVar 5)))))
noncomputable def w__law_times_1 : VL.Env → Fl :=
 (sFor (iRange1 (dVar 2)) (bName 5) w__law_times_0)
noncomputable def c__law_times_0 : M D :=
 (dOp2 opSub (dOp2 opIx (dVar 3) (dVar 6)) (dOp2 opIx (dVar 3) (dOp2 opAdd (dVar 6) (dVar 2))))
noncomputable def b__law_times : VL.Env → Fl :=
 (sSeq (sAsg (dCall fLen (aCons (dVar 0) aNil)) (bName 2))
 (sSeq (sAsg (dComp (iRange1 (dOp2 opMul (dLit (.int 2)) (dVar 2))) (bName 6) qYes (dLit (.int 0)) [6]) (bName 3))
 (sSeq (sFor (iRange1 (dVar 2)) (bName 4) w__law_times_1)
 (sRet (dComp (iRange1 (dVar 2)) (bName 6) qYes c__law_times_0 [6])))))
noncomputable def f__law_times : List D → Res D := mkFn 2 7 b__law_times
/-! def _law_partner(a, place, most), line 170: slots 0 a, 1 place, 2 most, 3 size, 4 row, 5 i, 6 sign, 7 one -/
noncomputable def w__law_partner_0 : VL.Env → Fl :=
 (sSeq (sAsg (dLit (.int 1)) (bName 6))
 (sSeq (sIf (qB (dOp2 opLt (dOp2 opSub (dVar 1) (dVar 5)) (dLit (.int 0))))
 (sAsg (dOp1 opNeg (dLit (.int 1))) (bName 6))
 sNext)
 (sSeq (sIf (qB (dOp2 opLt (dOp2 opIx (dVar 0) (dVar 5)) (dLit (.int 0))))
 (sAsg (dOp1 opNeg (dVar 6)) (bName 6))
 sNext)
 (sIf (qB (dOp2 opNe (dOp2 opIx (dVar 0) (dVar 5)) (dLit (.int 0))))
 (sSet 4 (dOp2 opMod (dCall fInt (aCons (dOp2 opSub (dVar 1) (dVar 5)) aNil)) (dVar 3)) (dOp2 opMul (dVar 6) (dVar 2)))
 sNext))))
noncomputable def b__law_partner : VL.Env → Fl :=
 (sSeq (sAsg (dCall fLen (aCons (dVar 0) aNil)) (bName 3))
 (sSeq (sAsg (dComp (iSeq (dVar 0)) (bName 7) qYes (dVar 2) [7]) (bName 4))
 (sSeq (sFor (iRange1 (dVar 3)) (bName 5) w__law_partner_0)
 (sRet (dVar 4)))))
noncomputable def f__law_partner : List D → Res D := mkFn 3 8 b__law_partner
/-! def _law_size(cell), line 250: slots 0 cell, 1 rest -/
noncomputable def b__law_size : VL.Env → Fl :=
 (sSeq (sAsg (dCall fAbs (aCons (dVar 0) aNil)) (bName 1))
 (sSeq (sIf (qB (dOp2 opEq (dOp2 opMod (dOp2 opDiv (dVar 1) (dLit (.int 60))) (dLit (.int 16))) (dLit (.int 1))))
 (sRet (dOp2 opIx (dLst (aCons (dLit (.int 32)) (aCons (dLit (.int 64)) (aCons (dLit (.int 128)) (aCons (dLit (.int 1024)) aNil))))) (dOp2 opMod (dOp2 opDiv (dVar 1) (dLit (.int 960))) (dLit (.int 4)))))
 sNext)
 (sRet (dOp2 opIx (dLst (aCons (dLit (.int 1)) (aCons (dLit (.int 2)) (aCons (dLit (.int 4)) (aCons (dLit (.int 8)) (aCons (dLit (.int 16)) aNil)))))) (dOp2 opMod (dVar 1) (dLit (.int 5)))))))
noncomputable def f__law_size : List D → Res D := mkFn 1 2 b__law_size
/-! def residue(a, k), line 10: slots 0 a, 1 k -/
noncomputable def b_residue : VL.Env → Fl :=
 (sSeq (sExpr (dCall f_check_modulus (aCons (dVar 1) aNil)))
 (sRet (dOp2 opMod (dVar 0) (dVar 1))))
noncomputable def f_residue : List D → Res D := mkFn 2 2 b_residue
/-! def centred(a, k), line 13: slots 0 a, 1 k -/
noncomputable def b_centred : VL.Env → Fl :=
 (sSeq (sExpr (dCall f_check_modulus (aCons (dVar 1) aNil)))
 (sRet (dOp2 opSub (dOp2 opDiv (dVar 1) (dLit (.int 2))) (dOp2 opMod (dOp2 opSub (dOp2 opDiv (dVar 1) (dLit (.int 2))) (dVar 0)) (dVar 1)))))
noncomputable def f_centred : List D → Res D := mkFn 2 2 b_centred
/-! def round_div(a, b), line 16: slots 0 a, 1 b -/
noncomputable def b_round_div : VL.Env → Fl :=
 (sSeq (sExpr (dCall f_check_modulus (aCons (dVar 1) aNil)))
 (sRet (dOp2 opDiv (dOp2 opAdd (dOp2 opMul (dLit (.int 2)) (dVar 0)) (dVar 1)) (dOp2 opMul (dLit (.int 2)) (dVar 1)))))
noncomputable def f_round_div : List D → Res D := mkFn 2 2 b_round_div
/-! def check_pair(a, b), line 36: slots 0 a, 1 b -/
noncomputable def b_check_pair : VL.Env → Fl :=
 (sSeq (sExpr (dCall f_check_size (aCons (dCall fLen (aCons (dVar 0) aNil)) aNil)))
 (sIf (qB (dOp2 opNe (dCall fLen (aCons (dVar 0) aNil)) (dCall fLen (aCons (dVar 1) aNil))))
 (sRaise .range)
 sNext))
noncomputable def f_check_pair : List D → Res D := mkFn 2 2 b_check_pair
/-! def zero(size), line 40: slots 0 size -/
noncomputable def b_zero : VL.Env → Fl :=
 (sSeq (sExpr (dCall f_check_size (aCons (dVar 0) aNil)))
 (sRet (dOp2 opMul (dLst (aCons (dLit (.int 0)) aNil)) (dVar 0))))
noncomputable def f_zero : List D → Res D := mkFn 1 1 b_zero
/-! def shift(a, k), line 58: slots 0 a, 1 k, 2 size, 3 result, 4 i, 5 one, 6 place -/
noncomputable def w_shift_0 : VL.Env → Fl :=
 (sSeq (sAsg (dOp2 opMod (dOp2 opAdd (dVar 4) (dVar 1)) (dOp2 opMul (dLit (.int 2)) (dVar 2))) (bName 6))
 (sIf (qB (dOp2 opLt (dVar 6) (dVar 2)))
 (sSet 3 (dVar 6) (dVar 5))
 (sSet 3 (dOp2 opSub (dVar 6) (dVar 2)) (dOp1 opNeg (dVar 5)))))
noncomputable def b_shift : VL.Env → Fl :=
 (sSeq (sExpr (dCall f_check_size (aCons (dCall fLen (aCons (dVar 0) aNil)) aNil)))
 (sSeq (sAsg (dCall fLen (aCons (dVar 0) aNil)) (bName 2))
 (sSeq (sAsg (dOp2 opMul (dLst (aCons (dLit (.int 0)) aNil)) (dVar 2)) (bName 3))
 (sSeq (sFor (iEnum (dVar 0)) (bTup (bCons (bName 4) (bCons (bName 5) bNil))) w_shift_0)
 (sRet (dVar 3))))))
noncomputable def f_shift : List D → Res D := mkFn 2 7 b_shift
/-! def turn(a, k), line 69: slots 0 a, 1 k, 2 size, 3 result, 4 i, 5 one, 6 place -/
noncomputable def w_turn_0 : VL.Env → Fl :=
 (sSeq (sAsg (dOp2 opMod (dOp2 opMul (dVar 4) (dVar 1)) (dOp2 opMul (dLit (.int 2)) (dVar 2))) (bName 6))
 (sIf (qB (dOp2 opLt (dVar 6) (dVar 2)))
 (sSet 3 (dVar 6) (dVar 5))
 (sSet 3 (dOp2 opSub (dVar 6) (dVar 2)) (dOp1 opNeg (dVar 5)))))
noncomputable def b_turn : VL.Env → Fl :=
 (sSeq (sExpr (dCall f_check_size (aCons (dCall fLen (aCons (dVar 0) aNil)) aNil)))
 (sSeq (sIf (qB (dOp2 opEq (dOp2 opMod (dVar 1) (dLit (.int 2))) (dLit (.int 0))))
 (sRaise .range)
 sNext)
 (sSeq (sAsg (dCall fLen (aCons (dVar 0) aNil)) (bName 2))
 (sSeq (sAsg (dOp2 opMul (dLst (aCons (dLit (.int 0)) aNil)) (dVar 2)) (bName 3))
 (sSeq (sFor (iEnum (dVar 0)) (bTup (bCons (bName 4) (bCons (bName 5) bNil))) w_turn_0)
 (sRet (dVar 3)))))))
noncomputable def f_turn : List D → Res D := mkFn 2 7 b_turn
/-! def norm(a), line 82: slots 0 a, 1 one -/
noncomputable def c_norm_0 : M D :=
 (dCall fAbs (aCons (dVar 1) aNil))
noncomputable def b_norm : VL.Env → Fl :=
 (sSeq (sExpr (dCall f_check_size (aCons (dCall fLen (aCons (dVar 0) aNil)) aNil)))
 (sRet (dCall fMax (aCons (dComp (iSeq (dVar 0)) (bName 1) qYes c_norm_0 [1]) aNil))))
noncomputable def f_norm : List D → Res D := mkFn 1 2 b_norm
/-! def norm_one(a), line 85: slots 0 a, 1 one -/
noncomputable def c_norm_one_0 : M D :=
 (dCall fAbs (aCons (dVar 1) aNil))
noncomputable def b_norm_one : VL.Env → Fl :=
 (sSeq (sExpr (dCall f_check_size (aCons (dCall fLen (aCons (dVar 0) aNil)) aNil)))
 (sRet (dCall fSum (aCons (dComp (iSeq (dVar 0)) (bName 1) qYes c_norm_one_0 [1]) aNil))))
noncomputable def f_norm_one : List D → Res D := mkFn 1 2 b_norm_one
/-! def worst_partner(a, place, size), line 88: slots 0 a, 1 place, 2 size, 3 result, 4 i, 5 one, 6 j, 7 sign -/
noncomputable def w_worst_partner_0 : VL.Env → Fl :=
 (sSeq (sAsg (dOp2 opSub (dVar 1) (dVar 4)) (bName 6))
 (sSeq (sAsg (dIf (qB (dOp2 opGe (dVar 5) (dLit (.int 0)))) (dLit (.int 1)) (dOp1 opNeg (dLit (.int 1)))) (bName 7))
 (sIf (qB (dOp2 opGe (dVar 6) (dLit (.int 0))))
 (sSet 3 (dVar 6) (dOp2 opMul (dVar 7) (dVar 2)))
 (sIf (qB (dOp2 opNe (dVar 5) (dLit (.int 0))))
 (sSet 3 (dOp2 opAdd (dVar 6) (dCall fLen (aCons (dVar 0) aNil))) (dOp2 opMul (dOp1 opNeg (dVar 7)) (dVar 2)))
 sNext))))
noncomputable def b_worst_partner : VL.Env → Fl :=
 (sSeq (sExpr (dCall f_check_size (aCons (dCall fLen (aCons (dVar 0) aNil)) aNil)))
 (sSeq (sIf (qNot (qB (dChain opLe opLt (dLit (.int 0)) (dVar 1) (dCall fLen (aCons (dVar 0) aNil)))))
 (sRaise .range)
 sNext)
 (sSeq (sIf (qB (dOp2 opLt (dVar 2) (dLit (.int 0))))
 (sRaise .range)
 sNext)
 (sSeq (sAsg (dOp2 opMul (dLst (aCons (dVar 2) aNil)) (dCall fLen (aCons (dVar 0) aNil))) (bName 3))
 (sSeq (sFor (iEnum (dVar 0)) (bTup (bCons (bName 4) (bCons (bName 5) bNil))) w_worst_partner_0)
 (sRet (dVar 3)))))))
noncomputable def f_worst_partner : List D → Res D := mkFn 3 8 b_worst_partner
/-! def residues(a, k), line 103: slots 0 a, 1 k, 2 one -/
noncomputable def c_residues_0 : M D :=
 (dOp2 opMod (dVar 2) (dVar 1))
noncomputable def b_residues : VL.Env → Fl :=
 (sSeq (sExpr (dCall f_check_size (aCons (dCall fLen (aCons (dVar 0) aNil)) aNil)))
 (sSeq (sExpr (dCall f_check_modulus (aCons (dVar 1) aNil)))
 (sRet (dComp (iSeq (dVar 0)) (bName 2) qYes c_residues_0 [2]))))
noncomputable def f_residues : List D → Res D := mkFn 2 3 b_residues
/-! def _law_is_list(actual, due), line 139: slots 0 actual, 1 due, 2 one, 3 other -/
noncomputable def w__law_is_list_0 : VL.Env → Fl :=
 (sIf (qOr (qNot (qTru (dCall f__law_integer (aCons (dVar 2) aNil)))) (qB (dOp2 opNe (dVar 2) (dVar 3))))
 (sRet (dLit (.bl false)))
 sNext)
noncomputable def b__law_is_list : VL.Env → Fl :=
 (sSeq (sIf (qOr (qNot (qTru (dOp1 (opIsTy "list") (dVar 0)))) (qB (dOp2 opNe (dCall fLen (aCons (dVar 0) aNil)) (dCall fLen (aCons (dVar 1) aNil)))))
 (sRet (dLit (.bl false)))
 sNext)
 (sSeq (sFor (iZip (dVar 0) (dVar 1)) (bTup (bCons (bName 2) (bCons (bName 3) bNil))) w__law_is_list_0)
 (sRet (dLit (.bl true)))))
noncomputable def f__law_is_list : List D → Res D := mkFn 2 4 b__law_is_list
/-! def _law_wide(cell, k, most), line 146: slots 0 cell, 1 k, 2 most, 3 number, 4 j -/
noncomputable def w__law_wide_0 : VL.Env → Fl :=
 (sAsg (dOp2 opAdd (dOp2 opMul (dVar 3) (dLit (.int 33554432))) (dCall f__law_mixed (aCons (dVar 0) (aCons (dOp2 opAdd (dVar 1) (dOp2 opMul (dLit (.int 100)) (dVar 4))) aNil)))) (bName 3))
noncomputable def b__law_wide : VL.Env → Fl :=
 (sSeq (sAsg (dOp2 opAdd (dOp2 opMul (dCall f__law_mixed (aCons (dVar 0) (aCons (dVar 1) aNil))) (dLit (.int 33554432))) (dCall f__law_mixed (aCons (dVar 0) (aCons (dOp2 opAdd (dVar 1) (dLit (.int 100))) aNil)))) (bName 3))
 (sSeq (sIf (qB (dOp2 opGe (dVar 2) (dOp2 opShl (dLit (.int 1)) (dLit (.int 45)))))
 (sFor (iRange2 (dLit (.int 2)) (dLit (.int 6))) (bName 4) w__law_wide_0)
 sNext)
 (sRet (dCall fInt (aCons (dVar 3) aNil)))))
noncomputable def f__law_wide : List D → Res D := mkFn 3 5 b__law_wide
/-! def digits(v, base, count), line 24: slots 0 v, 1 base, 2 count, 3 found, 4 _, 5 digit -/
noncomputable def w_digits_0 : VL.Env → Fl :=
 (sSeq (sAsg (dCall f_centred (aCons (dVar 0) (aCons (dVar 1) aNil))) (bName 5))
 (sSeq (sApp 3 (dVar 5))
 (sAsg (dOp2 opDiv (dOp2 opSub (dVar 0) (dVar 5)) (dVar 1)) (bName 0))))
noncomputable def b_digits : VL.Env → Fl :=
 (sSeq (sExpr (dCall f_check_digits (aCons (dVar 1) (aCons (dVar 2) aNil))))
 (sSeq (sAsg (dLst aNil) (bName 3))
 (sSeq (sFor (iRange1 (dVar 2)) (bName 4) w_digits_0)
 (sRet (dTup (aCons (dVar 3) (aCons (dVar 0) aNil)))))))
noncomputable def f_digits : List D → Res D := mkFn 3 6 b_digits
/-! def add(a, b), line 43: slots 0 a, 1 b, 2 one, 3 other -/
noncomputable def c_add_0 : M D :=
 (dOp2 opAdd (dVar 2) (dVar 3))
noncomputable def b_add : VL.Env → Fl :=
 (sSeq (sExpr (dCall f_check_pair (aCons (dVar 0) (aCons (dVar 1) aNil))))
 (sRet (dComp (iZip (dVar 0) (dVar 1)) (bTup (bCons (bName 2) (bCons (bName 3) bNil))) qYes c_add_0 [2, 3])))
noncomputable def f_add : List D → Res D := mkFn 2 4 b_add
/-! def multiply(a, b), line 46: slots 0 a, 1 b, 2 size, 3 result, 4 i, 5 one, 6 j, 7 other -/
noncomputable def w_multiply_0 : VL.Env → Fl :=
 (sIf (qB (dOp2 opLt (dOp2 opAdd (dVar 4) (dVar 6)) (dVar 2)))
 (sSet 3 (dOp2 opAdd (dVar 4) (dVar 6)) (dOp2 opAdd (ixAt 3 (dOp2 opAdd (dVar 4) (dVar 6))) (dOp2 opMul (dVar 5) (dVar 7))))
 (sSet 3 (dOp2 opSub (dOp2 opAdd (dVar 4) (dVar 6)) (dVar 2)) (dOp2 opSub (ixAt 3 (dOp2 opSub (dOp2 opAdd (dVar 4) (dVar 6)) (dVar 2))) (dOp2 opMul (dVar 5) (dVar 7)))))
noncomputable def w_multiply_1 : VL.Env → Fl :=
 (sIf (qB (dOp2 opNe (dVar 5) (dLit (.int 0))))
 (sFor (iEnum (dVar 1)) (bTup (bCons (bName 6) (bCons (bName 7) bNil))) w_multiply_0)
 sNext)
noncomputable def b_multiply : VL.Env → Fl :=
 (sSeq (sExpr (dCall f_check_pair (aCons (dVar 0) (aCons (dVar 1) aNil))))
 (sSeq (sAsg (dCall fLen (aCons (dVar 0) aNil)) (bName 2))
 (sSeq (sAsg (dOp2 opMul (dLst (aCons (dLit (.int 0)) aNil)) (dVar 2)) (bName 3))
 (sSeq (sFor (iEnum (dVar 0)) (bTup (bCons (bName 4) (bCons (bName 5) bNil))) w_multiply_1)
 (sRet (dVar 3))))))
noncomputable def f_multiply : List D → Res D := mkFn 2 8 b_multiply
/-! def centre(a, k), line 107: slots 0 a, 1 k, 2 one -/
noncomputable def c_centre_0 : M D :=
 (dCall f_centred (aCons (dVar 2) (aCons (dVar 1) aNil)))
noncomputable def b_centre : VL.Env → Fl :=
 (sSeq (sExpr (dCall f_check_size (aCons (dCall fLen (aCons (dVar 0) aNil)) aNil)))
 (sSeq (sExpr (dCall f_check_modulus (aCons (dVar 1) aNil)))
 (sRet (dComp (iSeq (dVar 0)) (bName 2) qYes c_centre_0 [2]))))
noncomputable def f_centre : List D → Res D := mkFn 2 3 b_centre
/-! def divide(a, factor, divisor), line 111: slots 0 a, 1 factor, 2 divisor, 3 one -/
noncomputable def c_divide_0 : M D :=
 (dCall f_round_div (aCons (dOp2 opMul (dVar 1) (dVar 3)) (aCons (dVar 2) aNil)))
noncomputable def b_divide : VL.Env → Fl :=
 (sSeq (sExpr (dCall f_check_size (aCons (dCall fLen (aCons (dVar 0) aNil)) aNil)))
 (sSeq (sExpr (dCall f_check_modulus (aCons (dVar 2) aNil)))
 (sRet (dComp (iSeq (dVar 0)) (bName 3) qYes c_divide_0 [3]))))
noncomputable def f_divide : List D → Res D := mkFn 3 4 b_divide
/-! def _law_poly(cell, size, most), line 152: slots 0 cell, 1 size, 2 most, 3 left, 4 great, 5 row, 6 k -/
noncomputable def w__law_poly_0 : VL.Env → Fl :=
 (sIf (qAnd (qTru (dVar 4)) (qB (dOp2 opGt (dVar 3) (dLit (.int 0)))))
 (sSeq (sApp 5 (dOp2 opSub (dCall fInt (aCons (dOp2 opMod (dVar 3) (dOp2 opAdd (dOp2 opMul (dLit (.int 2)) (dVar 2)) (dLit (.int 1)))) aNil)) (dVar 2)))
 (sAsg (dOp2 opDiv (dVar 3) (dOp2 opAdd (dOp2 opMul (dLit (.int 2)) (dVar 2)) (dLit (.int 1)))) (bName 3)))
 (sApp 5 (dOp2 opSub (dOp2 opMod (dCall f__law_wide (aCons (dVar 0) (aCons (dVar 6) (aCons (dVar 2) aNil)))) (dOp2 opAdd (dOp2 opMul (dLit (.int 2)) (dVar 2)) (dLit (.int 1)))) (dVar 2))))
noncomputable def b__law_poly : VL.Env → Fl :=
 (sSeq (sAsg (dCall fAbs (aCons (dCall fInt (aCons (dVar 0) aNil)) aNil)) (bName 3))
 (sSeq (sAsg (dOp2 opGe (dVar 3) (dOp2 opPow (dLit (.int 10)) (dLit (.int 18)))) (bName 4))
 (sSeq (sAsg (dLst aNil) (bName 5))
 (sSeq (sFor (iRange1 (dVar 1)) (bName 6) w__law_poly_0)
 (sRet (dVar 5))))))
noncomputable def f__law_poly : List D → Res D := mkFn 3 7 b__law_poly
/-! def _law_sizes(a, b, k), line 182: slots 0 a, 1 b, 2 k, 3 great, 4 total, 5 other, 6 product, 7 one -/
noncomputable def c__law_sizes_0 : M D :=
 (dCall fAbs (aCons (dVar 7) aNil))
noncomputable def c__law_sizes_1 : M D :=
 (dCall fAbs (aCons (dVar 7) aNil))
noncomputable def w__law_sizes_0 : VL.Env → Fl :=
 (sIf (qOr (qB (dOp2 opNe (dCall f_norm (aCons (dVar 5) aNil)) (dVar 3))) (qB (dOp2 opNe (dCall f_norm_one (aCons (dVar 5) aNil)) (dVar 4))))
 (sRet (dLit (.bl false)))
 sNext)
noncomputable def b__law_sizes : VL.Env → Fl :=
 (sSeq (sAsg (dCall fMax (aCons (dComp (iSeq (dVar 0)) (bName 7) qYes c__law_sizes_0 [7]) aNil)) (bName 3))
 (sSeq (sAsg (dCall fSum (aCons (dComp (iSeq (dVar 0)) (bName 7) qYes c__law_sizes_1 [7]) aNil)) (bName 4))
 (sSeq (sIf (qOr (qNot (qTru (dCall f__law_integer (aCons (dCall f_norm (aCons (dVar 0) aNil)) aNil)))) (qOr (qB (dOp2 opNe (dCall f_norm (aCons (dVar 0) aNil)) (dVar 3))) (qOr (qNot (qTru (dCall f__law_integer (aCons (dCall f_norm_one (aCons (dVar 0) aNil)) aNil)))) (qB (dOp2 opNe (dCall f_norm_one (aCons (dVar 0) aNil)) (dVar 4))))))
 (sRet (dLit (.bl false)))
 sNext)
 (sSeq (sFor (iSeq (dLst (aCons (dCall f_shift (aCons (dVar 0) (aCons (dVar 2) aNil))) (aCons (dCall f_turn (aCons (dVar 0) (aCons (dOp2 opAdd (dOp2 opMul (dLit (.int 2)) (dVar 2)) (dLit (.int 1))) aNil))) aNil)))) (bName 5) w__law_sizes_0)
 (sSeq (sIf (qB (dOp2 opGt (dCall fLen (aCons (dVar 0) aNil)) (dLit (.int 128))))
 (sRet (dLit (.bl true)))
 sNext)
 (sSeq (sAsg (dCall f__law_times (aCons (dVar 0) (aCons (dVar 1) aNil))) (bName 6))
 (sSeq (sIf (qOr (qB (dOp2 opGt (dCall f_norm (aCons (dVar 6) aNil)) (dOp2 opMul (dVar 4) (dCall f_norm (aCons (dVar 1) aNil))))) (qB (dOp2 opGt (dVar 4) (dOp2 opMul (dCall fLen (aCons (dVar 0) aNil)) (dVar 3)))))
 (sRet (dLit (.bl false)))
 sNext)
 (sRet (dOp2 opLe (dCall f_norm_one (aCons (dVar 6) aNil)) (dOp2 opMul (dVar 4) (dCall f_norm_one (aCons (dVar 1) aNil))))))))))))
noncomputable def f__law_sizes : List D → Res D := mkFn 3 8 b__law_sizes
/-! def split(a, base, count), line 115: slots 0 a, 1 base, 2 count, 3 rows, 4 one, 5 k, 6 row -/
noncomputable def c_split_0 : M D :=
 (dCall f_digits (aCons (dVar 4) (aCons (dVar 1) (aCons (dVar 2) aNil))))
noncomputable def c_split_1 : M D :=
 (dOp2 opIx (dVar 6) (dLit (.int 1)))
noncomputable def c_split_2 : M D :=
 (dOp2 opIx (dOp2 opIx (dVar 6) (dLit (.int 0))) (dVar 5))
noncomputable def c_split_3 : M D :=
 (dComp (iSeq (dVar 3)) (bName 6) qYes c_split_2 [6])
noncomputable def b_split : VL.Env → Fl :=
 (sSeq (sExpr (dCall f_check_size (aCons (dCall fLen (aCons (dVar 0) aNil)) aNil)))
 (sSeq (sExpr (dCall f_check_digits (aCons (dVar 1) (aCons (dVar 2) aNil))))
 (sSeq (sAsg (dComp (iSeq (dVar 0)) (bName 4) qYes c_split_0 [4]) (bName 3))
 (sRet (dTup (aCons (dComp (iRange1 (dVar 2)) (bName 5) qYes c_split_3 [5]) (aCons (dComp (iSeq (dVar 3)) (bName 6) qYes c_split_1 [6]) aNil)))))))
noncomputable def f_split : List D → Res D := mkFn 3 7 b_split
/-! def evaluate(parts, s), line 120: slots 0 parts, 1 s, 2 result, 3 part -/
noncomputable def w_evaluate_0 : VL.Env → Fl :=
 (sAsg (dCall f_add (aCons (dCall f_multiply (aCons (dVar 2) (aCons (dVar 1) aNil))) (aCons (dVar 3) aNil))) (bName 2))
noncomputable def b_evaluate : VL.Env → Fl :=
 (sSeq (sIf (qB (dOp2 opEq (dCall fLen (aCons (dVar 0) aNil)) (dLit (.int 0))))
 (sRaise .range)
 sNext)
 (sSeq (sAsg (dCall f_zero (aCons (dCall fLen (aCons (dVar 1) aNil)) aNil)) (bName 2))
 (sSeq (sFor (iRev (dVar 0)) (bName 3) w_evaluate_0)
 (sRet (dVar 2)))))
noncomputable def f_evaluate : List D → Res D := mkFn 2 4 b_evaluate
/-! def _law_items(a, k, base, count), line 196: slots 0 a, 1 k, 2 base, 3 count, 4 given, 5 factor, 6 found, 7 rows, 8 place, 9 one, 10 row -/
noncomputable def c__law_items_0 : M D :=
 (dCall f_residue (aCons (dVar 9) (aCons (dVar 1) aNil)))
noncomputable def c__law_items_1 : M D :=
 (dCall f_centred (aCons (dVar 9) (aCons (dVar 1) aNil)))
noncomputable def c__law_items_2 : M D :=
 (dCall f_round_div (aCons (dOp2 opMul (dVar 5) (dVar 9)) (aCons (dVar 1) aNil)))
noncomputable def c__law_items_3 : M D :=
 (dCall f_digits (aCons (dVar 9) (aCons (dVar 2) (aCons (dVar 3) aNil))))
noncomputable def c__law_items_4 : M D :=
 (dOp2 opIx (dOp2 opIx (dVar 10) (dLit (.int 0))) (dVar 8))
noncomputable def w__law_items_0 : VL.Env → Fl :=
 (sIf (qNot (qTru (dCall f__law_is_list (aCons (dOp2 opIx (dOp2 opIx (dVar 6) (dLit (.int 0))) (dVar 8)) (aCons (dComp (iSeq (dVar 7)) (bName 10) qYes c__law_items_4 [10]) aNil)))))
 (sRet (dLit (.bl false)))
 sNext)
noncomputable def c__law_items_5 : M D :=
 (dOp2 opIx (dVar 10) (dLit (.int 1)))
noncomputable def t__law_items_0 : VL.Env → Fl :=
 (sSeq (sAsg (dCall f_split (aCons (dVar 4) (aCons (dVar 2) (aCons (dVar 3) aNil)))) (bName 6))
 (sSeq (sIf (qOr (qNot (qTru (dOp1 (opIsTy "tuple") (dVar 6)))) (qOr (qB (dOp2 opNe (dCall fLen (aCons (dVar 6) aNil)) (dLit (.int 2)))) (qOr (qNot (qTru (dOp1 (opIsTy "list") (dOp2 opIx (dVar 6) (dLit (.int 0)))))) (qB (dOp2 opNe (dCall fLen (aCons (dOp2 opIx (dVar 6) (dLit (.int 0))) aNil)) (dVar 3))))))
 (sRet (dLit (.bl false)))
 sNext)
 (sSeq (sAsg (dComp (iSeq (dVar 0)) (bName 9) qYes c__law_items_3 [9]) (bName 7))
 (sSeq (sFor (iRange1 (dVar 3)) (bName 8) w__law_items_0)
 (sRet (dAnd (dCall f__law_is_list (aCons (dOp2 opIx (dVar 6) (dLit (.int 1))) (aCons (dComp (iSeq (dVar 7)) (bName 10) qYes c__law_items_5 [10]) aNil))) (dOp2 opEq (dVar 4) (dVar 0))))))))
noncomputable def b__law_items : VL.Env → Fl :=
 (sSeq (sAsg (dCall fList (aCons (dVar 0) aNil)) (bName 4))
 (sSeq (sIf (qNot (qTru (dCall f__law_is_list (aCons (dCall f_residues (aCons (dVar 4) (aCons (dVar 1) aNil))) (aCons (dComp (iSeq (dVar 0)) (bName 9) qYes c__law_items_0 [9]) aNil)))))
 (sRet (dLit (.bl false)))
 sNext)
 (sSeq (sIf (qNot (qTru (dCall f__law_is_list (aCons (dCall f_centre (aCons (dVar 4) (aCons (dVar 1) aNil))) (aCons (dComp (iSeq (dVar 0)) (bName 9) qYes c__law_items_1 [9]) aNil)))))
 (sRet (dLit (.bl false)))
 sNext)
 (sSeq (sAsg (dOp2 opIx (dLst (aCons (dLit (.int 7)) (aCons (dLit (.int 0)) (aCons (dOp1 opNeg (dLit (.int 1))) (aCons (dLit (.int 1)) (aCons (dOp2 opSub (dLit (.int 0)) (dVar 2)) (aCons (dOp2 opAdd (dOp2 opMul (dVar 2) (dVar 2)) (dVar 1)) aNil))))))) (dOp2 opMod (dCall fInt (aCons (dVar 2) aNil)) (dLit (.int 6)))) (bName 5))
 (sSeq (sIf (qNot (qTru (dCall f__law_is_list (aCons (dCall f_divide (aCons (dVar 4) (aCons (dVar 5) (aCons (dVar 1) aNil)))) (aCons (dComp (iSeq (dVar 0)) (bName 9) qYes c__law_items_2 [9]) aNil)))))
 (sRet (dLit (.bl false)))
 sNext)
 t__law_items_0)))))
noncomputable def f__law_items : List D → Res D := mkFn 4 11 b__law_items
/-! def _law_refused(which, a, bad), line 213: slots 0 which, 1 a, 2 bad, 3 e -/
noncomputable def b__law_refused : VL.Env → Fl :=
 (sSeq (sTryAs (sIf (qB (dOp2 opEq (dVar 0) (dLit (.int 0))))
 (sExpr (dCall f_worst_partner (aCons (dVar 1) (aCons (dVar 2) (aCons (dLit (.int 1)) aNil)))))
 (sIf (qB (dOp2 opEq (dVar 0) (dLit (.int 1))))
 (sExpr (dCall f_worst_partner (aCons (dVar 1) (aCons (dLit (.int 0)) (aCons (dVar 2) aNil)))))
 (sIf (qB (dOp2 opEq (dVar 0) (dLit (.int 2))))
 (sExpr (dCall f_centre (aCons (dVar 1) (aCons (dVar 2) aNil))))
 (sIf (qB (dOp2 opEq (dVar 0) (dLit (.int 3))))
 (sExpr (dCall f_residues (aCons (dVar 1) (aCons (dVar 2) aNil))))
 (sIf (qB (dOp2 opEq (dVar 0) (dLit (.int 4))))
 (sExpr (dCall f_divide (aCons (dVar 1) (aCons (dLit (.int 1)) (aCons (dVar 2) aNil)))))
 (sIf (qB (dOp2 opEq (dVar 0) (dLit (.int 5))))
 (sExpr (dCall f_split (aCons (dVar 1) (aCons (dVar 2) (aCons (dLit (.int 1)) aNil)))))
 (sIf (qB (dOp2 opEq (dVar 0) (dLit (.int 6))))
 (sExpr (dCall f_split (aCons (dVar 1) (aCons (dLit (.int 3)) (aCons (dVar 2) aNil)))))
 (sIf (qB (dOp2 opEq (dVar 0) (dLit (.int 7))))
 (sExpr (dCall f_evaluate (aCons (dVar 2) (aCons (dVar 1) aNil))))
 (sExpr (dPick2 f_norm f_norm_one (dOp2 opSub (dVar 0) (dLit (.int 8))) (aCons (dVar 2) aNil))))))))))) .purse 3 (fun er => (sRet (dIsEr er .range))))
 (sRet (dLit (.bl false))))
noncomputable def f__law_refused : List D → Res D := mkFn 3 4 b__law_refused
/-! def _law_odd_sizes(a), line 236: slots 0 a, 1 bad, 2 told -/
noncomputable def w__law_odd_sizes_0 : VL.Env → Fl :=
 (sSeq (sAsg (dLst (aCons (dCall f__law_refused (aCons (dLit (.int 8)) (aCons (dLit .non) (aCons (dVar 1) aNil)))) (aCons (dCall f__law_refused (aCons (dLit (.int 9)) (aCons (dLit .non) (aCons (dVar 1) aNil)))) (aCons (dCall f__law_refused (aCons (dLit (.int 0)) (aCons (dVar 1) (aCons (dLit (.int 0)) aNil)))) (aCons (dCall f__law_refused (aCons (dLit (.int 2)) (aCons (dVar 1) (aCons (dLit (.int 5)) aNil)))) (aCons (dCall f__law_refused (aCons (dLit (.int 3)) (aCons (dVar 1) (aCons (dLit (.int 5)) aNil)))) aNil)))))) (bName 2))
 (sIf (qB (dOp2 opIn (dLit (.bl false)) (dOp2 opAdd (dVar 2) (dLst (aCons (dCall f__law_refused (aCons (dLit (.int 4)) (aCons (dVar 1) (aCons (dLit (.int 5)) aNil)))) (aCons (dCall f__law_refused (aCons (dLit (.int 5)) (aCons (dVar 1) (aCons (dLit (.int 5)) aNil)))) aNil))))))
 (sRet (dLit (.bl false)))
 sNext))
noncomputable def b__law_odd_sizes : VL.Env → Fl :=
 (sSeq (sFor (iSeq (dLst (aCons (dLst aNil) (aCons (dOp2 opAdd (dVar 0) (dOp2 opMul (dLst (aCons (dLit (.int 0)) aNil)) (dOp2 opAdd (dLit (.int 1)) (dCall fInt (aCons (dOp2 opEq (dCall fLen (aCons (dVar 0) aNil)) (dLit (.int 1))) aNil))))) (aCons (dOp2 opMul (dLst (aCons (dLit (.int 1)) aNil)) (dLit (.int 1025))) aNil))))) (bName 1) w__law_odd_sizes_0)
 (sRet (dLit (.bl true))))
noncomputable def f__law_odd_sizes : List D → Res D := mkFn 1 3 b__law_odd_sizes
/-! def _law_bounds(a, cell), line 242: slots 0 a, 1 cell, 2 size, 3 rows, 4 which, 5 bad -/
noncomputable def w__law_bounds_0 : VL.Env → Fl :=
 (sIf (qNot (qTru (dCall f__law_refused (aCons (dVar 4) (aCons (dVar 0) (aCons (dVar 5) aNil))))))
 (sRet (dLit (.bl false)))
 sNext)
noncomputable def w__law_bounds_1 : VL.Env → Fl :=
 (sFor (iSeq (dOp2 opIx (dVar 3) (dVar 4))) (bName 5) w__law_bounds_0)
noncomputable def b__law_bounds : VL.Env → Fl :=
 (sSeq (sAsg (dCall fLen (aCons (dVar 0) aNil)) (bName 2))
 (sSeq (sAsg (dLst (aCons (dLst (aCons (dOp1 opNeg (dLit (.int 1))) (aCons (dVar 2) (aCons (dOp2 opAdd (dVar 2) (dVar 1)) aNil)))) (aCons (dLst (aCons (dOp1 opNeg (dLit (.int 1))) (aCons (dOp2 opSub (dOp1 opNeg (dLit (.int 1))) (dVar 1)) aNil))) (aCons (dLst (aCons (dLit (.int 0)) (aCons (dOp1 opNeg (dVar 1)) aNil))) (aCons (dLst (aCons (dLit (.int 0)) (aCons (dOp1 opNeg (dLit (.int 1))) aNil))) (aCons (dLst (aCons (dLit (.int 0)) (aCons (dOp2 opSub (dOp1 opNeg (dLit (.int 1))) (dVar 1)) aNil))) (aCons (dLst (aCons (dLit (.int 2)) (aCons (dOp1 opNeg (dVar 1)) aNil))) (aCons (dLst (aCons (dOp1 opNeg (dLit (.int 1))) (aCons (dLit (.int 4097)) aNil))) (aCons (dLst (aCons (dLst (aCons (dOp2 opAdd (dVar 0) (dVar 0)) aNil)) (aCons (dLst aNil) aNil))) aNil))))))))) (bName 3))
 (sSeq (sFor (iRange1 (dLit (.int 8))) (bName 4) w__law_bounds_1)
 (sRet (dCall f__law_odd_sizes (aCons (dVar 0) aNil))))))
noncomputable def f__law_bounds : List D → Res D := mkFn 2 6 b__law_bounds
/-! def law(script), line 255: slots 0 script, 1 size, 2 most, 3 a, 4 b, 5 k, 6 place, 7 limit, 8 given, 9 partner, 10 product, 11 parts, 12 due, 13 power, 14 part, 15 j, 16 one, 17 other -/
noncomputable def c_law_0 : M D :=
 (dCall f__law_poly (aCons (dCall f__law_cell (aCons (dVar 0) (aCons (dOp2 opAdd (dLit (.int 5)) (dVar 15)) aNil))) (aCons (dVar 1) (aCons (dLit (.int 5)) aNil))))
noncomputable def c_law_1 : M D :=
 (dCall fList (aCons (dVar 14) aNil))
noncomputable def c_law_2 : M D :=
 (dOp2 opAdd (dVar 16) (dVar 17))
noncomputable def w_law_0 : VL.Env → Fl :=
 (sSeq (sAsg (dComp (iZip (dVar 12) (dCall f__law_times (aCons (dVar 14) (aCons (dVar 13) aNil)))) (bTup (bCons (bName 16) (bCons (bName 17) bNil))) qYes c_law_2 [16, 17]) (bName 12))
 (sAsg (dCall f__law_times (aCons (dVar 13) (aCons (dVar 4) aNil))) (bName 13)))
noncomputable def t_law_0 : VL.Env → Fl :=
 (sSeq (sIf (qOr (qNot (qTru (dCall f__law_is_list (aCons (dCall f_evaluate (aCons (dOp2 opIx (dVar 8) (dLit (.int 0))) (aCons (dOp2 opIx (dVar 8) (dLit (.int 1))) aNil))) (aCons (dVar 12) aNil))))) (qB (dOp2 opNe (dVar 8) (dLst (aCons (dVar 11) (aCons (dVar 4) aNil))))))
 (sRet (dLit (.bl false)))
 sNext)
 (sRet (dCall f__law_bounds (aCons (dVar 3) (aCons (dCall fAbs (aCons (dCall f__law_cell (aCons (dVar 0) (aCons (dLit (.int 8)) aNil))) aNil)) aNil)))))
noncomputable def t_law_1 : VL.Env → Fl :=
 (sSeq (sAsg (dComp (iRange1 (dOp2 opAdd (dLit (.int 1)) (dOp2 opMod (dCall fAbs (aCons (dCall f__law_cell (aCons (dVar 0) (aCons (dLit (.int 9)) aNil))) aNil)) (dLit (.int 4))))) (bName 15) qYes c_law_0 [15]) (bName 11))
 (sSeq (sAsg (dLst (aCons (dComp (iSeq (dVar 11)) (bName 14) qYes c_law_1 [14]) (aCons (dCall fList (aCons (dVar 4) aNil)) aNil))) (bName 8))
 (sSeq (sAsg (dComp (iSeq (dVar 3)) (bName 16) qYes (dLit (.int 0)) [16]) (bName 12))
 (sSeq (sAsg (dOp2 opAdd (dLst (aCons (dLit (.int 1)) aNil)) (dComp (iRange1 (dOp2 opSub (dVar 1) (dLit (.int 1)))) (bName 15) qYes (dLit (.int 0)) [15])) (bName 13))
 (sSeq (sFor (iSeq (dVar 11)) (bName 14) w_law_0)
 t_law_0)))))
noncomputable def t_law_2 : VL.Env → Fl :=
 (sSeq (sAsg (dCall f_worst_partner (aCons (dVar 8) (aCons (dVar 6) (aCons (dVar 7) aNil)))) (bName 9))
 (sSeq (sIf (qOr (qNot (qTru (dCall f__law_is_list (aCons (dVar 9) (aCons (dCall f__law_partner (aCons (dVar 3) (aCons (dVar 6) (aCons (dVar 7) aNil)))) aNil))))) (qB (dOp2 opNe (dVar 8) (dVar 3))))
 (sRet (dLit (.bl false)))
 sNext)
 (sSeq (sIf (qB (dOp2 opLe (dVar 1) (dLit (.int 128))))
 (sSeq (sAsg (dCall f_multiply (aCons (dVar 3) (aCons (dVar 9) aNil))) (bName 10))
 (sIf (qOr (qB (dOp2 opNe (dOp2 opIx (dVar 10) (dVar 6)) (dOp2 opMul (dCall f_norm_one (aCons (dVar 3) aNil)) (dVar 7)))) (qB (dOp2 opNe (dCall f_norm (aCons (dVar 10) aNil)) (dOp2 opMul (dCall f_norm_one (aCons (dVar 3) aNil)) (dVar 7)))))
 (sRet (dLit (.bl false)))
 sNext))
 sNext)
 (sSeq (sIf (qNot (qTru (dCall f__law_items (aCons (dVar 3) (aCons (dOp2 opAdd (dLit (.int 1)) (dOp2 opMod (dCall fAbs (aCons (dVar 5) aNil)) (dOp2 opShl (dLit (.int 1)) (dLit (.int 90))))) (aCons (dOp2 opAdd (dLit (.int 3)) (dOp2 opMod (dOp2 opDiv (dCall fAbs (aCons (dVar 5) aNil)) (dLit (.int 7))) (dLit (.int 200)))) (aCons (dOp2 opMod (dCall fAbs (aCons (dVar 5) aNil)) (dLit (.int 9))) aNil)))))))
 (sRet (dLit (.bl false)))
 sNext)
 (sSeq (sIf (qB (dOp2 opGt (dVar 1) (dLit (.int 128))))
 (sRet (dCall f__law_bounds (aCons (dVar 3) (aCons (dCall fAbs (aCons (dCall f__law_cell (aCons (dVar 0) (aCons (dLit (.int 8)) aNil))) aNil)) aNil))))
 sNext)
 t_law_1)))))
noncomputable def t_law_3 : VL.Env → Fl :=
 (sSeq (sAsg (dCall f__law_cell (aCons (dVar 0) (aCons (dLit (.int 3)) aNil))) (bName 5))
 (sSeq (sIf (qNot (qTru (dCall f__law_sizes (aCons (dCall fList (aCons (dVar 3) aNil)) (aCons (dCall fList (aCons (dVar 4) aNil)) (aCons (dVar 5) aNil))))))
 (sRet (dLit (.bl false)))
 sNext)
 (sSeq (sAsg (dOp2 opMod (dCall fAbs (aCons (dCall f__law_cell (aCons (dVar 0) (aCons (dLit (.int 4)) aNil))) aNil)) (dVar 1)) (bName 6))
 (sSeq (sAsg (dOp2 opIx (dLst (aCons (dOp2 opMod (dOp2 opDiv (dCall fAbs (aCons (dCall f__law_cell (aCons (dVar 0) (aCons (dLit (.int 4)) aNil))) aNil)) (dVar 1)) (dLit (.int 10))) (aCons (dOp2 opShl (dLit (.int 1)) (dLit (.int 70))) aNil))) (dOp2 opMod (dOp2 opDiv (dCall fAbs (aCons (dCall f__law_cell (aCons (dVar 0) (aCons (dLit (.int 4)) aNil))) aNil)) (dLit (.int 160))) (dLit (.int 2)))) (bName 7))
 (sSeq (sAsg (dCall fList (aCons (dVar 3) aNil)) (bName 8))
 t_law_2)))))
noncomputable def b_law : VL.Env → Fl :=
 (sSeq (sAsg (dCall f__law_size (aCons (dCall f__law_cell (aCons (dVar 0) (aCons (dLit (.int 0)) aNil))) aNil)) (bName 1))
 (sSeq (sAsg (dOp2 opIx (dLst (aCons (dLit (.int 3)) (aCons (dOp2 opShl (dLit (.int 1)) (dLit (.int 40))) (aCons (dLit (.int 1)) aNil)))) (dOp2 opMod (dOp2 opDiv (dCall fAbs (aCons (dCall f__law_cell (aCons (dVar 0) (aCons (dLit (.int 0)) aNil))) aNil)) (dLit (.int 5))) (dLit (.int 3)))) (bName 2))
 (sSeq (sAsg (dCall f__law_poly (aCons (dCall f__law_cell (aCons (dVar 0) (aCons (dLit (.int 1)) aNil))) (aCons (dVar 1) (aCons (dVar 2) aNil)))) (bName 3))
 (sSeq (sAsg (dCall f__law_poly (aCons (dCall f__law_cell (aCons (dVar 0) (aCons (dLit (.int 2)) aNil))) (aCons (dVar 1) (aCons (dVar 2) aNil)))) (bName 4))
 t_law_3))))
noncomputable def f_law : List D → Res D := mkFn 1 18 b_law
end K03
namespace K03
open PySem hiding Env
open VL VT
noncomputable def p_check_size (size : Int) : Res Unit := (tRunF () (if ((!((decide ((1 : Int) ≤ size)) && (decide (size ≤ (1024 : Int))))) || (!decide ((Builtin.bitAnd size (size - (1 : Int))) = (0 : Int)))) then (.ex .range) else (.nx ())))
theorem s_check_size (size : Int) : Sm Enc.enc (f_check_size [Enc.enc size]) (p_check_size size) := by
  unfold f_check_size b_check_size
  exact fn_simF (r0 := ()) rfl rfl (by decide) (k_ifP (fun η hl h => (u_qOrP (u_qNotP (u_qB (u_chain' (bP (e_lit (x := (1 : Int)) rfl) (bP (e_var (x := size) h 0 rfl) (chain_inP (l_le (x := (1 : Int)) (y := size)) (bP (e_lit (x := (1024 : Int)) rfl) (l_le (x := size) (y := (1024 : Int)))))))))) (u_qB (u_op2 (bP (u_op2 (bP (e_var (x := size) h 0 rfl) (bP (u_op2 (bP (e_var (x := size) h 0 rfl) (bP (e_lit (x := (1 : Int)) rfl) (l_sub (x := size) (y := (1 : Int)))))) (l_bitAnd (x := size) (y := (size - (1 : Int))))))) (bP (e_lit (x := (0 : Int)) rfl) (l_ne (x := (Builtin.bitAnd size (size - (1 : Int)))) (y := (0 : Int))))))))) (k_raise .range Sub.nil) (k_next (k_end Sub.nil)))
noncomputable def p_zero (size : Int) : Res (List Int) := (tRun (onE (p_check_size size) fun u_1 => (onE (lrep ([(0 : Int)] : List Int) size) TF.rt)))
theorem s_zero (size : Int) : Sm Enc.enc (f_zero [Enc.enc size]) (p_zero size) := by
  unfold f_zero b_zero
  exact fn_sim rfl (by decide) (k_seq (k_exprE Sub.nil (fun η hl h => (u_call (a_consP (e_var (x := size) h 0 rfl) (a_nil (s_check_size size))))) fun u_1 => (k_retE Sub.nil fun η hl h => (u_op2 (bP (u_lst (a_consP (e_lit (x := (0 : Int)) rfl) (a_nil (l_lst (xs := ([(0 : Int)] : List Int)) rfl rfl)))) (bP (e_var (x := size) h 0 rfl) (l_rep (xs := ([(0 : Int)] : List Int)) (k := size))))))))
noncomputable def p_check_pair (a : (List Int)) (b : (List Int)) : Res Unit := (tRunF () (onE (p_check_size (ilen a)) fun u_5 => (if (!decide ((ilen a) = (ilen b))) then (.ex .range) else (.nx ()))))
theorem s_check_pair (a : (List Int)) (b : (List Int)) : Sm Enc.enc (f_check_pair [Enc.enc a, Enc.enc b]) (p_check_pair a b) := by
  unfold f_check_pair b_check_pair
  exact fn_simF (r0 := ()) rfl rfl (by decide) (k_seq (k_exprE Sub.nil (fun η hl h => (u_call (a_consP (u_call (a_consP (e_var (x := a) h 0 rfl) (a_nil (l_len (xs := a))))) (a_nil (s_check_size (ilen a)))))) fun u_5 => (k_ifP (fun η hl h => (u_qB (u_op2 (bP (u_call (a_consP (e_var (x := a) h 0 rfl) (a_nil (l_len (xs := a))))) (bP (u_call (a_consP (e_var (x := b) h 1 rfl) (a_nil (l_len (xs := b))))) (l_ne (x := (ilen a)) (y := (ilen b)))))))) (k_raise .range Sub.nil) (k_next (k_end Sub.nil)))))
noncomputable def p_multiply (a : (List Int)) (b : (List Int)) : Res (List Int) := (tRun (onE (p_check_pair a b) fun u_22 => (onE (Res.ok (ilen a)) fun size_6 => (onE (lrep ([(0 : Int)] : List Int) size_6) fun result_7 => (TF.bind (tFor (enumL 0 a) (result_7 : ((List Int))) (fun (x_9 : (Int × Int)) (s_8 : ((List Int))) => (if (!decide (x_9.2 = (0 : Int))) then (TF.bind (tFor (enumL 0 b) (s_8 : ((List Int))) (fun (x_11 : (Int × Int)) (s_10 : ((List Int))) => (if (decide ((x_9.1 + x_11.1) < size_6)) then (onE (Res.bind (Res.bind (Res.bind (ix s_10 (x_9.1 + x_11.1)) fun v_12 => (Res.bind (imul x_9.2 x_11.2) fun v_13 => (Res.ok (v_12 + v_13)))) fun v_15 => (Res.ok ((v_15, (x_9.1 + x_11.1)) : (Int × Int)))) fun p => setI s_10 p.2 p.1) fun result_14 => (.nx result_14)) else (onE (Res.bind (Res.bind (Res.bind (ix s_10 ((x_9.1 + x_11.1) - size_6)) fun v_16 => (Res.bind (imul x_9.2 x_11.2) fun v_17 => (Res.ok (v_16 - v_17)))) fun v_19 => (Res.ok ((v_19, ((x_9.1 + x_11.1) - size_6)) : (Int × Int)))) fun p => setI s_10 p.2 p.1) fun result_18 => (.nx result_18))))) fun s_20 => (.nx s_20)) else (.nx s_8)))) fun s_21 => (.rt s_21))))))
theorem s_multiply (a : (List Int)) (b : (List Int)) : Sm Enc.enc (f_multiply [Enc.enc a, Enc.enc b]) (p_multiply a b) := by
  unfold f_multiply b_multiply w_multiply_1 w_multiply_0
  exact fn_sim rfl (by decide) (k_seq (k_exprE Sub.nil (fun η hl h => (u_call (a_consP (e_var (x := a) h 0 rfl) (a_consP (e_var (x := b) h 1 rfl) (a_nil (s_check_pair a b)))))) fun u_22 => (k_seq (k_asgE (r := (Res.ok (ilen a))) (by decide) Sub.nil (fun η hl h => (u_call (a_consP (e_var (x := a) h 0 rfl) (a_nil (l_len (xs := a)))))) fun size_6 => (k_seq (k_asgE (r := (lrep ([(0 : Int)] : List Int) size_6)) (by decide) Sub.nil (fun η hl h => (u_op2 (bP (u_lst (a_consP (e_lit (x := (0 : Int)) rfl) (a_nil (l_lst (xs := ([(0 : Int)] : List Int)) rfl rfl)))) (bP (e_var (x := size_6) h 2 rfl) (l_rep (xs := ([(0 : Int)] : List Int)) (k := size_6)))))) fun result_7 => (k_seq (k_forP (xs := (enumL 0 a)) (fun (s_8 : ((List Int))) => [(1, Enc.enc b), (2, Enc.enc size_6), (3, Enc.enc s_8)]) (s0 := (result_7 : ((List Int)))) (fun η hl h => (i_enumP (e_var (x := a) h 0 rfl))) (Sub.of ⟨rfl, rfl, rfl, trivial⟩) (fun x_9 s_8 => (t_tup (ts_cons (t_name 4 (by decide)) (ts_cons (t_name 5 (by decide)) ts_nil)))) (fun x_9 s_8 => (k_ifP (fun η hl h => (u_qB (u_op2 (bP (e_var (x := x_9.2) h 5 rfl) (bP (e_lit (x := (0 : Int)) rfl) (l_ne (x := x_9.2) (y := (0 : Int)))))))) (k_forP (xs := (enumL 0 b)) (fun (s_10 : ((List Int))) => [(1, Enc.enc b), (2, Enc.enc size_6), (3, Enc.enc s_10), (4, Enc.enc x_9.1), (5, Enc.enc x_9.2)]) (s0 := (s_8 : ((List Int)))) (fun η hl h => (i_enumP (e_var (x := b) h 1 rfl))) (Sub.of ⟨rfl, rfl, rfl, rfl, rfl, trivial⟩) (fun x_11 s_10 => (t_tup (ts_cons (t_name 6 (by decide)) (ts_cons (t_name 7 (by decide)) ts_nil)))) (fun x_11 s_10 => (k_ifP (fun η hl h => (u_qB (u_op2 (bP (u_op2 (bP (e_var (x := x_9.1) h 4 rfl) (bP (e_var (x := x_11.1) h 6 rfl) (l_add (x := x_9.1) (y := x_11.1))))) (bP (e_var (x := size_6) h 2 rfl) (l_lt (x := (x_9.1 + x_11.1)) (y := size_6))))))) (k_setE (xs := s_10) (r := (Res.bind (Res.bind (ix s_10 (x_9.1 + x_11.1)) fun v_12 => (Res.bind (imul x_9.2 x_11.2) fun v_13 => (Res.ok (v_12 + v_13)))) fun v_15 => (Res.ok ((v_15, (x_9.1 + x_11.1)) : (Int × Int))))) (by decide) Sub.nil rfl (fun η hl h => (bE (u_op2 (bE (u_ixAt (xs := s_10) h rfl (u_op2 (bP (e_var (x := x_9.1) h 4 rfl) (bP (e_var (x := x_11.1) h 6 rfl) (l_add (x := x_9.1) (y := x_11.1)))))) fun v_12 => (bE (u_op2 (bP (e_var (x := x_9.2) h 5 rfl) (bP (e_var (x := x_11.2) h 7 rfl) (l_mul (x := x_9.2) (y := x_11.2))))) fun v_13 => (l_add (x := v_12) (y := v_13))))) fun v_15 => (bP (u_op2 (bP (e_var (x := x_9.1) h 4 rfl) (bP (e_var (x := x_11.1) h 6 rfl) (l_add (x := x_9.1) (y := x_11.1))))) rfl))) fun result_14 => (k_end (Sub.of ⟨rfl, rfl, rfl, rfl, rfl, trivial⟩))) (k_setE (xs := s_10) (r := (Res.bind (Res.bind (ix s_10 ((x_9.1 + x_11.1) - size_6)) fun v_16 => (Res.bind (imul x_9.2 x_11.2) fun v_17 => (Res.ok (v_16 - v_17)))) fun v_19 => (Res.ok ((v_19, ((x_9.1 + x_11.1) - size_6)) : (Int × Int))))) (by decide) Sub.nil rfl (fun η hl h => (bE (u_op2 (bE (u_ixAt (xs := s_10) h rfl (u_op2 (bP (u_op2 (bP (e_var (x := x_9.1) h 4 rfl) (bP (e_var (x := x_11.1) h 6 rfl) (l_add (x := x_9.1) (y := x_11.1))))) (bP (e_var (x := size_6) h 2 rfl) (l_sub (x := (x_9.1 + x_11.1)) (y := size_6)))))) fun v_16 => (bE (u_op2 (bP (e_var (x := x_9.2) h 5 rfl) (bP (e_var (x := x_11.2) h 7 rfl) (l_mul (x := x_9.2) (y := x_11.2))))) fun v_17 => (l_sub (x := v_16) (y := v_17))))) fun v_19 => (bP (u_op2 (bP (u_op2 (bP (e_var (x := x_9.1) h 4 rfl) (bP (e_var (x := x_11.1) h 6 rfl) (l_add (x := x_9.1) (y := x_11.1))))) (bP (e_var (x := size_6) h 2 rfl) (l_sub (x := (x_9.1 + x_11.1)) (y := size_6))))) rfl))) fun result_18 => (k_end (Sub.of ⟨rfl, rfl, rfl, rfl, rfl, trivial⟩))))) fun s_20 => (k_end (Sub.of ⟨rfl, rfl, rfl, trivial⟩))) (k_next (k_end (Sub.of ⟨rfl, rfl, rfl, trivial⟩))))) fun s_21 => (k_retP fun η hl h => (e_var (x := s_21) h 3 rfl))))))))))
noncomputable def p_add (a : (List Int)) (b : (List Int)) : Res (List Int) := (tRun (onE (p_check_pair a b) fun u_24 => (onE (cmap (fun (x_23 : (Int × Int)) => (x_23.1 + x_23.2)) (List.zip a b)) TF.rt)))
theorem s_add (a : (List Int)) (b : (List Int)) : Sm Enc.enc (f_add [Enc.enc a, Enc.enc b]) (p_add a b) := by
  unfold f_add b_add c_add_0
  exact fn_sim rfl (by decide) (k_seq (k_exprE Sub.nil (fun η hl h => (u_call (a_consP (e_var (x := a) h 0 rfl) (a_consP (e_var (x := b) h 1 rfl) (a_nil (s_check_pair a b)))))) fun u_24 => (k_retE Sub.nil fun η hl h => (compP hl h (i_zipP (e_var (x := a) h 0 rfl) (e_var (x := b) h 1 rfl)) (fun x_23 => (t_tup (ts_cons (t_name 2 (by decide)) (ts_cons (t_name 3 (by decide)) ts_nil)))) (fun x_23 η hl h => (u_op2 (bP (e_var (x := x_23.1) h 2 rfl) (bP (e_var (x := x_23.2) h 3 rfl) (l_add (x := x_23.1) (y := x_23.2))))))))))
noncomputable def p_evaluate (parts : (List (List Int))) (s : (List Int)) : Res (List Int) := (tRun (if (decide ((ilen parts) = (0 : Int))) then (.ex .range) else (onE (p_zero (ilen s)) fun result_2 => (TF.bind (tFor (parts).reverse (result_2 : ((List Int))) (fun (x_4 : (List Int)) (s_3 : ((List Int))) => (onE (Res.bind (p_multiply s_3 s) fun v_25 => (p_add v_25 x_4)) fun result_26 => (.nx result_26)))) fun s_27 => (.rt s_27)))))
theorem s_evaluate (parts : (List (List Int))) (s : (List Int)) : Sm Enc.enc (f_evaluate [Enc.enc parts, Enc.enc s]) (p_evaluate parts s) := by
  unfold f_evaluate b_evaluate w_evaluate_0
  exact fn_sim rfl (by decide) (k_seq (k_ifP (fun η hl h => (u_qB (u_op2 (bP (u_call (a_consP (e_var (x := parts) h 0 rfl) (a_nil (l_len (xs := parts))))) (bP (e_lit (x := (0 : Int)) rfl) (l_eq (x := (ilen parts)) (y := (0 : Int)))))))) (k_raise .range Sub.nil) (k_next (k_seq (k_asgE (r := (p_zero (ilen s))) (by decide) Sub.nil (fun η hl h => (u_call (a_consP (u_call (a_consP (e_var (x := s) h 1 rfl) (a_nil (l_len (xs := s))))) (a_nil (s_zero (ilen s)))))) fun result_2 => (k_seq (k_forP (xs := (parts).reverse) (fun (s_3 : ((List Int))) => [(1, Enc.enc s), (2, Enc.enc s_3)]) (s0 := (result_2 : ((List Int)))) (fun η hl h => (i_revP (e_var (x := parts) h 0 rfl))) (Sub.of ⟨rfl, rfl, trivial⟩) (fun x_4 s_3 => (t_name 3 (by decide))) (fun x_4 s_3 => (k_asgE (r := (Res.bind (p_multiply s_3 s) fun v_25 => (p_add v_25 x_4))) (by decide) Sub.nil (fun η hl h => (u_call (a_consE (u_call (a_consP (e_var (x := s_3) h 2 rfl) (a_consP (e_var (x := s) h 1 rfl) (a_nil (s_multiply s_3 s))))) fun v_25 => (a_consP (e_var (x := x_4) h 3 rfl) (a_nil (s_add v_25 x_4)))))) fun result_26 => (k_end (Sub.of ⟨rfl, rfl, trivial⟩)))) fun s_27 => (k_retP fun η hl h => (e_var (x := s_27) h 2 rfl)))))))))
noncomputable def p__law_cell (script : (List Int)) (k : Int) : Res Int := (tRun (if (decide (k < (ilen script))) then (onE (Res.bind (ix script k) fun v_28 => (Res.ok v_28)) TF.rt) else (.rt (0 : Int))))
theorem s__law_cell (script : (List Int)) (k : Int) : Sm Enc.enc (f__law_cell [Enc.enc script, Enc.enc k]) (p__law_cell script k) := by
  unfold f__law_cell b__law_cell
  exact fn_sim rfl (by decide) (k_seq (k_ifP (fun η hl h => (u_qB (u_op2 (bP (e_var (x := k) h 1 rfl) (bP (u_call (a_consP (e_var (x := script) h 0 rfl) (a_nil (l_len (xs := script))))) (l_lt (x := k) (y := (ilen script)))))))) (k_retE Sub.nil fun η hl h => (u_call (a_consE (u_op2 (bP (e_var (x := script) h 0 rfl) (bP (e_var (x := k) h 1 rfl) (l_ix (xs := script) (x := k))))) fun v_28 => (a_nil (l_int (x := v_28)))))) (k_next (k_retP fun η hl h => (e_lit (x := (0 : Int)) rfl)))))
noncomputable def p__law_size (cell : Int) : Res Int := (tRun (onE (Res.ok (iabs cell)) fun rest_29 => (onE (Res.bind (Res.bind (idiv rest_29 (60 : Int)) fun v_30 => (imod v_30 (16 : Int))) fun v_31 => (Res.ok (decide (v_31 = (1 : Int))))) fun c => if c then (onE (Res.bind (Res.bind (idiv rest_29 (960 : Int)) fun v_32 => (imod v_32 (4 : Int))) fun v_33 => (ix ([(32 : Int), (64 : Int), (128 : Int), (1024 : Int)] : List Int) v_33)) TF.rt) else (onE (Res.bind (imod rest_29 (5 : Int)) fun v_34 => (ix ([(1 : Int), (2 : Int), (4 : Int), (8 : Int), (16 : Int)] : List Int) v_34)) TF.rt))))
theorem s__law_size (cell : Int) : Sm Enc.enc (f__law_size [Enc.enc cell]) (p__law_size cell) := by
  unfold f__law_size b__law_size
  exact fn_sim rfl (by decide) (k_seq (k_asgE (r := (Res.ok (iabs cell))) (by decide) Sub.nil (fun η hl h => (u_call (a_consP (e_var (x := cell) h 0 rfl) (a_nil (l_abs (x := cell)))))) fun rest_29 => (k_seq (k_ifE Sub.nil (fun η hl h => (u_qB (u_op2 (bE (u_op2 (bE (u_op2 (bP (e_var (x := rest_29) h 1 rfl) (bP (e_lit (x := (60 : Int)) rfl) (l_div (x := rest_29) (y := (60 : Int)))))) fun v_30 => (bP (e_lit (x := (16 : Int)) rfl) (l_mod (x := v_30) (y := (16 : Int)))))) fun v_31 => (bP (e_lit (x := (1 : Int)) rfl) (l_eq (x := v_31) (y := (1 : Int)))))))) (k_retE Sub.nil fun η hl h => (u_op2 (bP (u_lst (a_consP (e_lit (x := (32 : Int)) rfl) (a_consP (e_lit (x := (64 : Int)) rfl) (a_consP (e_lit (x := (128 : Int)) rfl) (a_consP (e_lit (x := (1024 : Int)) rfl) (a_nil (l_lst (xs := ([(32 : Int), (64 : Int), (128 : Int), (1024 : Int)] : List Int)) rfl rfl))))))) (bE (u_op2 (bE (u_op2 (bP (e_var (x := rest_29) h 1 rfl) (bP (e_lit (x := (960 : Int)) rfl) (l_div (x := rest_29) (y := (960 : Int)))))) fun v_32 => (bP (e_lit (x := (4 : Int)) rfl) (l_mod (x := v_32) (y := (4 : Int)))))) fun v_33 => (l_ix (xs := ([(32 : Int), (64 : Int), (128 : Int), (1024 : Int)] : List Int)) (x := v_33)))))) (k_next (k_retE Sub.nil fun η hl h => (u_op2 (bP (u_lst (a_consP (e_lit (x := (1 : Int)) rfl) (a_consP (e_lit (x := (2 : Int)) rfl) (a_consP (e_lit (x := (4 : Int)) rfl) (a_consP (e_lit (x := (8 : Int)) rfl) (a_consP (e_lit (x := (16 : Int)) rfl) (a_nil (l_lst (xs := ([(1 : Int), (2 : Int), (4 : Int), (8 : Int), (16 : Int)] : List Int)) rfl rfl)))))))) (bE (u_op2 (bP (e_var (x := rest_29) h 1 rfl) (bP (e_lit (x := (5 : Int)) rfl) (l_mod (x := rest_29) (y := (5 : Int)))))) fun v_34 => (l_ix (xs := ([(1 : Int), (2 : Int), (4 : Int), (8 : Int), (16 : Int)] : List Int)) (x := v_34)))))))))))
noncomputable def p__law_mixed (cell : Int) (k : Int) : Res Int := (tRun (onE (Res.bind (Res.bind (Res.bind (imul cell (48271 : Int)) fun v_58 => (Res.bind (imul k (69621 : Int)) fun v_59 => (Res.ok (v_58 + v_59)))) fun v_60 => (Res.ok (v_60 + (7 : Int)))) fun v_61 => (imod v_61 (2147483647 : Int))) fun x_62 => (onE (Res.bind (Res.bind (Res.bind (imul x_62 x_62) fun v_63 => (Res.bind (imul k (40692 : Int)) fun v_64 => (Res.ok (v_63 + v_64)))) fun v_65 => (Res.ok (v_65 + (3 : Int)))) fun v_66 => (imod v_66 (2147483629 : Int))) fun x_67 => (onE (Res.bind (Res.bind (Res.bind (imul x_67 x_67) fun v_68 => (Res.bind (imul k (30269 : Int)) fun v_69 => (Res.ok (v_68 + v_69)))) fun v_70 => (Res.ok (v_70 + (5 : Int)))) fun v_71 => (imod v_71 (2147483587 : Int))) fun x_72 => (onE (idiv x_72 (64 : Int)) TF.rt)))))
theorem s__law_mixed (cell : Int) (k : Int) : Sm Enc.enc (f__law_mixed [Enc.enc cell, Enc.enc k]) (p__law_mixed cell k) := by
  unfold f__law_mixed b__law_mixed
  exact fn_sim rfl (by decide) (k_seq (k_asgE (r := (Res.bind (Res.bind (Res.bind (imul cell (48271 : Int)) fun v_58 => (Res.bind (imul k (69621 : Int)) fun v_59 => (Res.ok (v_58 + v_59)))) fun v_60 => (Res.ok (v_60 + (7 : Int)))) fun v_61 => (imod v_61 (2147483647 : Int)))) (by decide) Sub.nil (fun η hl h => (u_op2 (bE (u_op2 (bE (u_op2 (bE (u_op2 (bP (u_call (a_consP (e_var (x := cell) h 0 rfl) (a_nil (l_int (x := cell))))) (bP (e_lit (x := (48271 : Int)) rfl) (l_mul (x := cell) (y := (48271 : Int)))))) fun v_58 => (bE (u_op2 (bP (e_var (x := k) h 1 rfl) (bP (e_lit (x := (69621 : Int)) rfl) (l_mul (x := k) (y := (69621 : Int)))))) fun v_59 => (l_add (x := v_58) (y := v_59))))) fun v_60 => (bP (e_lit (x := (7 : Int)) rfl) (l_add (x := v_60) (y := (7 : Int)))))) fun v_61 => (bP (e_lit (x := (2147483647 : Int)) rfl) (l_mod (x := v_61) (y := (2147483647 : Int))))))) fun x_62 => (k_seq (k_asgE (r := (Res.bind (Res.bind (Res.bind (imul x_62 x_62) fun v_63 => (Res.bind (imul k (40692 : Int)) fun v_64 => (Res.ok (v_63 + v_64)))) fun v_65 => (Res.ok (v_65 + (3 : Int)))) fun v_66 => (imod v_66 (2147483629 : Int)))) (by decide) Sub.nil (fun η hl h => (u_op2 (bE (u_op2 (bE (u_op2 (bE (u_op2 (bP (e_var (x := x_62) h 2 rfl) (bP (e_var (x := x_62) h 2 rfl) (l_mul (x := x_62) (y := x_62))))) fun v_63 => (bE (u_op2 (bP (e_var (x := k) h 1 rfl) (bP (e_lit (x := (40692 : Int)) rfl) (l_mul (x := k) (y := (40692 : Int)))))) fun v_64 => (l_add (x := v_63) (y := v_64))))) fun v_65 => (bP (e_lit (x := (3 : Int)) rfl) (l_add (x := v_65) (y := (3 : Int)))))) fun v_66 => (bP (e_lit (x := (2147483629 : Int)) rfl) (l_mod (x := v_66) (y := (2147483629 : Int))))))) fun x_67 => (k_seq (k_asgE (r := (Res.bind (Res.bind (Res.bind (imul x_67 x_67) fun v_68 => (Res.bind (imul k (30269 : Int)) fun v_69 => (Res.ok (v_68 + v_69)))) fun v_70 => (Res.ok (v_70 + (5 : Int)))) fun v_71 => (imod v_71 (2147483587 : Int)))) (by decide) Sub.nil (fun η hl h => (u_op2 (bE (u_op2 (bE (u_op2 (bE (u_op2 (bP (e_var (x := x_67) h 2 rfl) (bP (e_var (x := x_67) h 2 rfl) (l_mul (x := x_67) (y := x_67))))) fun v_68 => (bE (u_op2 (bP (e_var (x := k) h 1 rfl) (bP (e_lit (x := (30269 : Int)) rfl) (l_mul (x := k) (y := (30269 : Int)))))) fun v_69 => (l_add (x := v_68) (y := v_69))))) fun v_70 => (bP (e_lit (x := (5 : Int)) rfl) (l_add (x := v_70) (y := (5 : Int)))))) fun v_71 => (bP (e_lit (x := (2147483587 : Int)) rfl) (l_mod (x := v_71) (y := (2147483587 : Int))))))) fun x_72 => (k_retE Sub.nil fun η hl h => (u_op2 (bP (e_var (x := x_72) h 2 rfl) (bP (e_lit (x := (64 : Int)) rfl) (l_div (x := x_72) (y := (64 : Int)))))))))))))
noncomputable def p__law_wide (cell : Int) (k : Int) (most : Int) : Res Int := (tRun (onE (Res.bind (Res.bind (p__law_mixed cell k) fun v_73 => (imul v_73 (33554432 : Int))) fun v_74 => (Res.bind (p__law_mixed cell (k + (100 : Int))) fun v_75 => (Res.ok (v_74 + v_75)))) fun number_76 => (onE (Res.bind (ishl (1 : Int) (45 : Int)) fun v_77 => (Res.ok (decide (most ≥ v_77)))) fun c => if c then (onE (irange2 (2 : Int) (6 : Int)) fun xs_86 => TF.bind (tFor xs_86 (number_76 : (Int)) (fun (x_79 : Int) (s_78 : (Int)) => (onE (Res.bind (imul s_78 (33554432 : Int)) fun v_82 => (Res.bind (Res.bind (Res.bind (imul (100 : Int) x_79) fun v_80 => (Res.ok (k + v_80))) fun v_81 => (p__law_mixed cell v_81)) fun v_83 => (Res.ok (v_82 + v_83)))) fun number_84 => (.nx number_84)))) fun s_85 => (.rt s_85)) else (.rt number_76))))
theorem s__law_wide (cell : Int) (k : Int) (most : Int) : Sm Enc.enc (f__law_wide [Enc.enc cell, Enc.enc k, Enc.enc most]) (p__law_wide cell k most) := by
  unfold f__law_wide b__law_wide w__law_wide_0
  exact fn_sim rfl (by decide) (k_seq (k_asgE (r := (Res.bind (Res.bind (p__law_mixed cell k) fun v_73 => (imul v_73 (33554432 : Int))) fun v_74 => (Res.bind (p__law_mixed cell (k + (100 : Int))) fun v_75 => (Res.ok (v_74 + v_75))))) (by decide) Sub.nil (fun η hl h => (u_op2 (bE (u_op2 (bE (u_call (a_consP (e_var (x := cell) h 0 rfl) (a_consP (e_var (x := k) h 1 rfl) (a_nil (s__law_mixed cell k))))) fun v_73 => (bP (e_lit (x := (33554432 : Int)) rfl) (l_mul (x := v_73) (y := (33554432 : Int)))))) fun v_74 => (bE (u_call (a_consP (e_var (x := cell) h 0 rfl) (a_consP (u_op2 (bP (e_var (x := k) h 1 rfl) (bP (e_lit (x := (100 : Int)) rfl) (l_add (x := k) (y := (100 : Int)))))) (a_nil (s__law_mixed cell (k + (100 : Int))))))) fun v_75 => (l_add (x := v_74) (y := v_75)))))) fun number_76 => (k_seq (k_ifE Sub.nil (fun η hl h => (u_qB (u_op2 (bP (e_var (x := most) h 2 rfl) (bE (u_op2 (bP (e_lit (x := (1 : Int)) rfl) (bP (e_lit (x := (45 : Int)) rfl) (l_shl (x := (1 : Int)) (y := (45 : Int)))))) fun v_77 => (l_ge (x := most) (y := v_77))))))) (k_for (ri := (irange2 (2 : Int) (6 : Int))) (fun (s_78 : (Int)) => [(0, Enc.enc cell), (1, Enc.enc k), (3, Enc.enc s_78)]) (s0 := (number_76 : (Int))) Sub.nil (fun η hl h => (i_range2P (e_lit (x := (2 : Int)) rfl) (e_lit (x := (6 : Int)) rfl))) (Sub.of ⟨rfl, rfl, rfl, trivial⟩) (fun x_79 s_78 => (t_name 4 (by decide))) (fun x_79 s_78 => (k_asgE (r := (Res.bind (imul s_78 (33554432 : Int)) fun v_82 => (Res.bind (Res.bind (Res.bind (imul (100 : Int) x_79) fun v_80 => (Res.ok (k + v_80))) fun v_81 => (p__law_mixed cell v_81)) fun v_83 => (Res.ok (v_82 + v_83))))) (by decide) Sub.nil (fun η hl h => (u_op2 (bE (u_op2 (bP (e_var (x := s_78) h 3 rfl) (bP (e_lit (x := (33554432 : Int)) rfl) (l_mul (x := s_78) (y := (33554432 : Int)))))) fun v_82 => (bE (u_call (a_consP (e_var (x := cell) h 0 rfl) (a_consE (u_op2 (bP (e_var (x := k) h 1 rfl) (bE (u_op2 (bP (e_lit (x := (100 : Int)) rfl) (bP (e_var (x := x_79) h 4 rfl) (l_mul (x := (100 : Int)) (y := x_79))))) fun v_80 => (l_add (x := k) (y := v_80))))) fun v_81 => (a_nil (s__law_mixed cell v_81))))) fun v_83 => (l_add (x := v_82) (y := v_83)))))) fun number_84 => (k_end (Sub.of ⟨rfl, rfl, rfl, trivial⟩)))) fun s_85 => (k_retP fun η hl h => (u_call (a_consP (e_var (x := s_85) h 3 rfl) (a_nil (l_int (x := s_85))))))) (k_next (k_retP fun η hl h => (u_call (a_consP (e_var (x := number_76) h 3 rfl) (a_nil (l_int (x := number_76)))))))))))
noncomputable def p__law_poly (cell : Int) (size : Int) (most : Int) : Res (List Int) := (tRun (onE (Res.ok (iabs cell)) fun left_44 => (onE (Res.bind (ipow (10 : Int) (18 : Int)) fun v_45 => (Res.ok (decide (left_44 ≥ v_45)))) fun great_46 => (onE (Res.ok ([] : List Int)) fun row_47 => (onE (irange size) fun xs_93 => TF.bind (tFor xs_93 ((left_44, row_47) : (Int × (List Int))) (fun (x_49 : Int) (s_48 : (Int × (List Int))) => (if (great_46 && (decide (s_48.1 > (0 : Int)))) then (onE (Res.bind (Res.bind (Res.bind (Res.bind (Res.bind (imul (2 : Int) most) fun v_50 => (Res.ok (v_50 + (1 : Int)))) fun v_51 => (imod s_48.1 v_51)) fun v_52 => (Res.ok v_52)) fun v_53 => (Res.ok (v_53 - most))) fun x => lapp s_48.2 x) fun row_54 => (onE (Res.bind (Res.bind (imul (2 : Int) most) fun v_55 => (Res.ok (v_55 + (1 : Int)))) fun v_56 => (idiv s_48.1 v_56)) fun left_57 => (.nx (left_57, row_54)))) else (onE (Res.bind (Res.bind (Res.bind (p__law_wide cell x_49 most) fun v_88 => (Res.bind (Res.bind (imul (2 : Int) most) fun v_87 => (Res.ok (v_87 + (1 : Int)))) fun v_89 => (imod v_88 v_89))) fun v_90 => (Res.ok (v_90 - most))) fun x => lapp s_48.2 x) fun row_91 => (.nx (s_48.1, row_91)))))) fun s_92 => (.rt s_92.2))))))
theorem s__law_poly (cell : Int) (size : Int) (most : Int) : Sm Enc.enc (f__law_poly [Enc.enc cell, Enc.enc size, Enc.enc most]) (p__law_poly cell size most) := by
  unfold f__law_poly b__law_poly w__law_poly_0
  exact fn_sim rfl (by decide) (k_seq (k_asgE (r := (Res.ok (iabs cell))) (by decide) Sub.nil (fun η hl h => (u_call (a_consP (u_call (a_consP (e_var (x := cell) h 0 rfl) (a_nil (l_int (x := cell))))) (a_nil (l_abs (x := cell)))))) fun left_44 => (k_seq (k_asgE (r := (Res.bind (ipow (10 : Int) (18 : Int)) fun v_45 => (Res.ok (decide (left_44 ≥ v_45))))) (by decide) Sub.nil (fun η hl h => (u_op2 (bP (e_var (x := left_44) h 3 rfl) (bE (u_op2 (bP (e_lit (x := (10 : Int)) rfl) (bP (e_lit (x := (18 : Int)) rfl) (l_pow (x := (10 : Int)) (y := (18 : Int)))))) fun v_45 => (l_ge (x := left_44) (y := v_45)))))) fun great_46 => (k_seq (k_asgE (r := (Res.ok ([] : List Int))) (by decide) Sub.nil (fun η hl h => (u_lst (a_nil (l_lst (xs := ([] : List Int)) rfl rfl)))) fun row_47 => (k_seq (k_for (ri := (irange size)) (fun (s_48 : (Int × (List Int))) => [(0, Enc.enc cell), (2, Enc.enc most), (3, Enc.enc s_48.1), (4, Enc.enc great_46), (5, Enc.enc s_48.2)]) (s0 := ((left_44, row_47) : (Int × (List Int)))) Sub.nil (fun η hl h => (i_range1P (e_var (x := size) h 1 rfl))) (Sub.of ⟨rfl, rfl, rfl, rfl, rfl, trivial⟩) (fun x_49 s_48 => (t_name 6 (by decide))) (fun x_49 s_48 => (k_ifP (fun η hl h => (u_qAndP (u_qTruB (e_var (x := great_46) h 4 rfl)) (u_qB (u_op2 (bP (e_var (x := s_48.1) h 3 rfl) (bP (e_lit (x := (0 : Int)) rfl) (l_gt (x := s_48.1) (y := (0 : Int))))))))) (k_seq (k_app (xs := s_48.2) (by decide) Sub.nil rfl (fun η hl h => (u_op2 (bE (u_call (a_consE (u_op2 (bP (e_var (x := s_48.1) h 3 rfl) (bE (u_op2 (bE (u_op2 (bP (e_lit (x := (2 : Int)) rfl) (bP (e_var (x := most) h 2 rfl) (l_mul (x := (2 : Int)) (y := most))))) fun v_50 => (bP (e_lit (x := (1 : Int)) rfl) (l_add (x := v_50) (y := (1 : Int)))))) fun v_51 => (l_mod (x := s_48.1) (y := v_51))))) fun v_52 => (a_nil (l_int (x := v_52))))) fun v_53 => (bP (e_var (x := most) h 2 rfl) (l_sub (x := v_53) (y := most)))))) fun row_54 => (k_asgE (r := (Res.bind (Res.bind (imul (2 : Int) most) fun v_55 => (Res.ok (v_55 + (1 : Int)))) fun v_56 => (idiv s_48.1 v_56))) (by decide) Sub.nil (fun η hl h => (u_op2 (bP (e_var (x := s_48.1) h 3 rfl) (bE (u_op2 (bE (u_op2 (bP (e_lit (x := (2 : Int)) rfl) (bP (e_var (x := most) h 2 rfl) (l_mul (x := (2 : Int)) (y := most))))) fun v_55 => (bP (e_lit (x := (1 : Int)) rfl) (l_add (x := v_55) (y := (1 : Int)))))) fun v_56 => (l_div (x := s_48.1) (y := v_56)))))) fun left_57 => (k_end (Sub.of ⟨rfl, rfl, rfl, rfl, rfl, trivial⟩))))) (k_app (xs := s_48.2) (by decide) Sub.nil rfl (fun η hl h => (u_op2 (bE (u_op2 (bE (u_call (a_consP (e_var (x := cell) h 0 rfl) (a_consP (e_var (x := x_49) h 6 rfl) (a_consP (e_var (x := most) h 2 rfl) (a_nil (s__law_wide cell x_49 most)))))) fun v_88 => (bE (u_op2 (bE (u_op2 (bP (e_lit (x := (2 : Int)) rfl) (bP (e_var (x := most) h 2 rfl) (l_mul (x := (2 : Int)) (y := most))))) fun v_87 => (bP (e_lit (x := (1 : Int)) rfl) (l_add (x := v_87) (y := (1 : Int)))))) fun v_89 => (l_mod (x := v_88) (y := v_89))))) fun v_90 => (bP (e_var (x := most) h 2 rfl) (l_sub (x := v_90) (y := most)))))) fun row_91 => (k_end (Sub.of ⟨rfl, rfl, rfl, rfl, rfl, trivial⟩))))) fun s_92 => (k_retP fun η hl h => (e_var (x := s_92.2) h 5 rfl))))))))))
noncomputable def p_norm (a : (List Int)) : Res Int := (tRun (onE (p_check_size (ilen a)) fun u_107 => (onE (Res.bind (cmap (fun (x_105 : Int) => (iabs x_105)) a) fun v_106 => (imaxL v_106)) TF.rt)))
theorem s_norm (a : (List Int)) : Sm Enc.enc (f_norm [Enc.enc a]) (p_norm a) := by
  unfold f_norm b_norm c_norm_0
  exact fn_sim rfl (by decide) (k_seq (k_exprE Sub.nil (fun η hl h => (u_call (a_consP (u_call (a_consP (e_var (x := a) h 0 rfl) (a_nil (l_len (xs := a))))) (a_nil (s_check_size (ilen a)))))) fun u_107 => (k_retE Sub.nil fun η hl h => (u_call (a_consE (compP hl h (i_seqP (e_var (x := a) h 0 rfl)) (fun x_105 => (t_name 1 (by decide))) (fun x_105 η hl h => (u_call (a_consP (e_var (x := x_105) h 1 rfl) (a_nil (l_abs (x := x_105))))))) fun v_106 => (a_nil (l_max (xs := v_106))))))))
noncomputable def p__law_integer (actual : Int) : Res Bool := (tRun (.rt (true && (!false))))
theorem s__law_integer (actual : Int) : Sm Enc.enc (f__law_integer [Enc.enc actual]) (p__law_integer actual) := by
  unfold f__law_integer b__law_integer
  exact fn_sim rfl (by decide) (k_retP fun η hl h => (u_andP (u_op1 (bP (e_var (x := actual) h 0 rfl) (l_isTy rfl))) (u_notP (u_op1 (bP (e_var (x := actual) h 0 rfl) (l_isTy rfl))))))
noncomputable def p_norm_one (a : (List Int)) : Res Int := (tRun (onE (p_check_size (ilen a)) fun u_112 => (onE (Res.bind (cmap (fun (x_110 : Int) => (iabs x_110)) a) fun v_111 => (Res.ok (List.sum v_111))) TF.rt)))
theorem s_norm_one (a : (List Int)) : Sm Enc.enc (f_norm_one [Enc.enc a]) (p_norm_one a) := by
  unfold f_norm_one b_norm_one c_norm_one_0
  exact fn_sim rfl (by decide) (k_seq (k_exprE Sub.nil (fun η hl h => (u_call (a_consP (u_call (a_consP (e_var (x := a) h 0 rfl) (a_nil (l_len (xs := a))))) (a_nil (s_check_size (ilen a)))))) fun u_112 => (k_retE Sub.nil fun η hl h => (u_call (a_consE (compP hl h (i_seqP (e_var (x := a) h 0 rfl)) (fun x_110 => (t_name 1 (by decide))) (fun x_110 η hl h => (u_call (a_consP (e_var (x := x_110) h 1 rfl) (a_nil (l_abs (x := x_110))))))) fun v_111 => (a_nil (l_sum (xs := v_111))))))))
noncomputable def p_shift (a : (List Int)) (k : Int) : Res (List Int) := (tRun (onE (p_check_size (ilen a)) fun u_124 => (onE (Res.ok (ilen a)) fun size_115 => (onE (lrep ([(0 : Int)] : List Int) size_115) fun result_116 => (TF.bind (tFor (enumL 0 a) (result_116 : ((List Int))) (fun (x_118 : (Int × Int)) (s_117 : ((List Int))) => (onE (Res.bind (imul (2 : Int) size_115) fun v_119 => (imod (x_118.1 + k) v_119)) fun place_120 => (if (decide (place_120 < size_115)) then (onE (setI s_117 place_120 x_118.2) fun result_121 => (.nx result_121)) else (onE (setI s_117 (place_120 - size_115) (-x_118.2)) fun result_122 => (.nx result_122)))))) fun s_123 => (.rt s_123))))))
theorem s_shift (a : (List Int)) (k : Int) : Sm Enc.enc (f_shift [Enc.enc a, Enc.enc k]) (p_shift a k) := by
  unfold f_shift b_shift w_shift_0
  exact fn_sim rfl (by decide) (k_seq (k_exprE Sub.nil (fun η hl h => (u_call (a_consP (u_call (a_consP (e_var (x := a) h 0 rfl) (a_nil (l_len (xs := a))))) (a_nil (s_check_size (ilen a)))))) fun u_124 => (k_seq (k_asgE (r := (Res.ok (ilen a))) (by decide) Sub.nil (fun η hl h => (u_call (a_consP (e_var (x := a) h 0 rfl) (a_nil (l_len (xs := a)))))) fun size_115 => (k_seq (k_asgE (r := (lrep ([(0 : Int)] : List Int) size_115)) (by decide) Sub.nil (fun η hl h => (u_op2 (bP (u_lst (a_consP (e_lit (x := (0 : Int)) rfl) (a_nil (l_lst (xs := ([(0 : Int)] : List Int)) rfl rfl)))) (bP (e_var (x := size_115) h 2 rfl) (l_rep (xs := ([(0 : Int)] : List Int)) (k := size_115)))))) fun result_116 => (k_seq (k_forP (xs := (enumL 0 a)) (fun (s_117 : ((List Int))) => [(1, Enc.enc k), (2, Enc.enc size_115), (3, Enc.enc s_117)]) (s0 := (result_116 : ((List Int)))) (fun η hl h => (i_enumP (e_var (x := a) h 0 rfl))) (Sub.of ⟨rfl, rfl, rfl, trivial⟩) (fun x_118 s_117 => (t_tup (ts_cons (t_name 4 (by decide)) (ts_cons (t_name 5 (by decide)) ts_nil)))) (fun x_118 s_117 => (k_seq (k_asgE (r := (Res.bind (imul (2 : Int) size_115) fun v_119 => (imod (x_118.1 + k) v_119))) (by decide) Sub.nil (fun η hl h => (u_op2 (bP (u_op2 (bP (e_var (x := x_118.1) h 4 rfl) (bP (e_var (x := k) h 1 rfl) (l_add (x := x_118.1) (y := k))))) (bE (u_op2 (bP (e_lit (x := (2 : Int)) rfl) (bP (e_var (x := size_115) h 2 rfl) (l_mul (x := (2 : Int)) (y := size_115))))) fun v_119 => (l_mod (x := (x_118.1 + k)) (y := v_119)))))) fun place_120 => (k_ifP (fun η hl h => (u_qB (u_op2 (bP (e_var (x := place_120) h 6 rfl) (bP (e_var (x := size_115) h 2 rfl) (l_lt (x := place_120) (y := size_115))))))) (k_set (xs := s_117) (by decide) Sub.nil rfl (fun η hl h => (e_var (x := x_118.2) h 5 rfl)) (fun η hl h => (e_var (x := place_120) h 6 rfl)) fun result_121 => (k_end (Sub.of ⟨rfl, rfl, rfl, trivial⟩))) (k_set (xs := s_117) (by decide) Sub.nil rfl (fun η hl h => (u_op1 (bP (e_var (x := x_118.2) h 5 rfl) (l_neg (x := x_118.2))))) (fun η hl h => (u_op2 (bP (e_var (x := place_120) h 6 rfl) (bP (e_var (x := size_115) h 2 rfl) (l_sub (x := place_120) (y := size_115)))))) fun result_122 => (k_end (Sub.of ⟨rfl, rfl, rfl, trivial⟩))))))) fun s_123 => (k_retP fun η hl h => (e_var (x := s_123) h 3 rfl))))))))))
noncomputable def p_turn (a : (List Int)) (k : Int) : Res (List Int) := (tRun (onE (p_check_size (ilen a)) fun u_137 => (onE (Res.bind (imod k (2 : Int)) fun v_126 => (Res.ok (decide (v_126 = (0 : Int))))) fun c => if c then (.ex .range) else (onE (Res.ok (ilen a)) fun size_127 => (onE (lrep ([(0 : Int)] : List Int) size_127) fun result_128 => (TF.bind (tFor (enumL 0 a) (result_128 : ((List Int))) (fun (x_130 : (Int × Int)) (s_129 : ((List Int))) => (onE (Res.bind (imul x_130.1 k) fun v_131 => (Res.bind (imul (2 : Int) size_127) fun v_132 => (imod v_131 v_132))) fun place_133 => (if (decide (place_133 < size_127)) then (onE (setI s_129 place_133 x_130.2) fun result_134 => (.nx result_134)) else (onE (setI s_129 (place_133 - size_127) (-x_130.2)) fun result_135 => (.nx result_135)))))) fun s_136 => (.rt s_136)))))))
theorem s_turn (a : (List Int)) (k : Int) : Sm Enc.enc (f_turn [Enc.enc a, Enc.enc k]) (p_turn a k) := by
  unfold f_turn b_turn w_turn_0
  exact fn_sim rfl (by decide) (k_seq (k_exprE Sub.nil (fun η hl h => (u_call (a_consP (u_call (a_consP (e_var (x := a) h 0 rfl) (a_nil (l_len (xs := a))))) (a_nil (s_check_size (ilen a)))))) fun u_137 => (k_seq (k_ifE Sub.nil (fun η hl h => (u_qB (u_op2 (bE (u_op2 (bP (e_var (x := k) h 1 rfl) (bP (e_lit (x := (2 : Int)) rfl) (l_mod (x := k) (y := (2 : Int)))))) fun v_126 => (bP (e_lit (x := (0 : Int)) rfl) (l_eq (x := v_126) (y := (0 : Int)))))))) (k_raise .range Sub.nil) (k_next (k_seq (k_asgE (r := (Res.ok (ilen a))) (by decide) Sub.nil (fun η hl h => (u_call (a_consP (e_var (x := a) h 0 rfl) (a_nil (l_len (xs := a)))))) fun size_127 => (k_seq (k_asgE (r := (lrep ([(0 : Int)] : List Int) size_127)) (by decide) Sub.nil (fun η hl h => (u_op2 (bP (u_lst (a_consP (e_lit (x := (0 : Int)) rfl) (a_nil (l_lst (xs := ([(0 : Int)] : List Int)) rfl rfl)))) (bP (e_var (x := size_127) h 2 rfl) (l_rep (xs := ([(0 : Int)] : List Int)) (k := size_127)))))) fun result_128 => (k_seq (k_forP (xs := (enumL 0 a)) (fun (s_129 : ((List Int))) => [(1, Enc.enc k), (2, Enc.enc size_127), (3, Enc.enc s_129)]) (s0 := (result_128 : ((List Int)))) (fun η hl h => (i_enumP (e_var (x := a) h 0 rfl))) (Sub.of ⟨rfl, rfl, rfl, trivial⟩) (fun x_130 s_129 => (t_tup (ts_cons (t_name 4 (by decide)) (ts_cons (t_name 5 (by decide)) ts_nil)))) (fun x_130 s_129 => (k_seq (k_asgE (r := (Res.bind (imul x_130.1 k) fun v_131 => (Res.bind (imul (2 : Int) size_127) fun v_132 => (imod v_131 v_132)))) (by decide) Sub.nil (fun η hl h => (u_op2 (bE (u_op2 (bP (e_var (x := x_130.1) h 4 rfl) (bP (e_var (x := k) h 1 rfl) (l_mul (x := x_130.1) (y := k))))) fun v_131 => (bE (u_op2 (bP (e_lit (x := (2 : Int)) rfl) (bP (e_var (x := size_127) h 2 rfl) (l_mul (x := (2 : Int)) (y := size_127))))) fun v_132 => (l_mod (x := v_131) (y := v_132)))))) fun place_133 => (k_ifP (fun η hl h => (u_qB (u_op2 (bP (e_var (x := place_133) h 6 rfl) (bP (e_var (x := size_127) h 2 rfl) (l_lt (x := place_133) (y := size_127))))))) (k_set (xs := s_129) (by decide) Sub.nil rfl (fun η hl h => (e_var (x := x_130.2) h 5 rfl)) (fun η hl h => (e_var (x := place_133) h 6 rfl)) fun result_134 => (k_end (Sub.of ⟨rfl, rfl, rfl, trivial⟩))) (k_set (xs := s_129) (by decide) Sub.nil rfl (fun η hl h => (u_op1 (bP (e_var (x := x_130.2) h 5 rfl) (l_neg (x := x_130.2))))) (fun η hl h => (u_op2 (bP (e_var (x := place_133) h 6 rfl) (bP (e_var (x := size_127) h 2 rfl) (l_sub (x := place_133) (y := size_127)))))) fun result_135 => (k_end (Sub.of ⟨rfl, rfl, rfl, trivial⟩))))))) fun s_136 => (k_retP fun η hl h => (e_var (x := s_136) h 3 rfl)))))))))))))
noncomputable def p__law_times (a : (List Int)) (b : (List Int)) : Res (List Int) := (tRun (onE (Res.ok (ilen a)) fun size_146 => (onE (Res.bind (Res.bind (imul (2 : Int) size_146) irange) fun xs_148 => (cmap (fun (x_147 : Int) => (0 : Int)) xs_148)) fun full_149 => (onE (irange size_146) fun xs_167 => TF.bind (tFor xs_167 (full_149 : ((List Int))) (fun (x_151 : Int) (s_150 : ((List Int))) => (onE (irange size_146) fun xs_161 => TF.bind (tFor xs_161 (s_150 : ((List Int))) (fun (x_153 : Int) (s_152 : ((List Int))) => (onE (Res.bind (Res.bind (Res.bind (ix s_152 (x_151 + x_153)) fun v_156 => (Res.bind (Res.bind (ix a x_151) fun v_154 => (Res.bind (ix b x_153) fun v_155 => (imul v_154 v_155))) fun v_157 => (Res.ok (v_156 + v_157)))) fun v_159 => (Res.ok ((v_159, (x_151 + x_153)) : (Int × Int)))) fun p => setI s_152 p.2 p.1) fun full_158 => (.nx full_158)))) fun s_160 => (.nx s_160)))) fun s_162 => (onE (Res.bind (irange size_146) fun xs_166 => (cmapE (fun (x_163 : Int) => (Res.bind (ix s_162 x_163) fun v_164 => (Res.bind (ix s_162 (x_163 + size_146)) fun v_165 => (Res.ok (v_164 - v_165))))) xs_166)) TF.rt)))))
theorem s__law_times (a : (List Int)) (b : (List Int)) : Sm Enc.enc (f__law_times [Enc.enc a, Enc.enc b]) (p__law_times a b) := by
  unfold f__law_times b__law_times c__law_times_0 w__law_times_1 w__law_times_0
  exact fn_sim rfl (by decide) (k_seq (k_asgE (r := (Res.ok (ilen a))) (by decide) Sub.nil (fun η hl h => (u_call (a_consP (e_var (x := a) h 0 rfl) (a_nil (l_len (xs := a)))))) fun size_146 => (k_seq (k_asgE (r := (Res.bind (Res.bind (imul (2 : Int) size_146) irange) fun xs_148 => (cmap (fun (x_147 : Int) => (0 : Int)) xs_148))) (by decide) Sub.nil (fun η hl h => (compI (i_range1E (u_op2 (bP (e_lit (x := (2 : Int)) rfl) (bP (e_var (x := size_146) h 2 rfl) (l_mul (x := (2 : Int)) (y := size_146)))))) fun xs_148 hi => (compP hl h hi (fun x_147 => (t_name 6 (by decide))) (fun x_147 η hl h => (e_lit (x := (0 : Int)) rfl))))) fun full_149 => (k_seq (k_for (ri := (irange size_146)) (fun (s_150 : ((List Int))) => [(0, Enc.enc a), (1, Enc.enc b), (2, Enc.enc size_146), (3, Enc.enc s_150)]) (s0 := (full_149 : ((List Int)))) Sub.nil (fun η hl h => (i_range1P (e_var (x := size_146) h 2 rfl))) (Sub.of ⟨rfl, rfl, rfl, rfl, trivial⟩) (fun x_151 s_150 => (t_name 4 (by decide))) (fun x_151 s_150 => (k_for (ri := (irange size_146)) (fun (s_152 : ((List Int))) => [(0, Enc.enc a), (1, Enc.enc b), (2, Enc.enc size_146), (3, Enc.enc s_152), (4, Enc.enc x_151)]) (s0 := (s_150 : ((List Int)))) Sub.nil (fun η hl h => (i_range1P (e_var (x := size_146) h 2 rfl))) (Sub.of ⟨rfl, rfl, rfl, rfl, rfl, trivial⟩) (fun x_153 s_152 => (t_name 5 (by decide))) (fun x_153 s_152 => (k_setE (xs := s_152) (r := (Res.bind (Res.bind (ix s_152 (x_151 + x_153)) fun v_156 => (Res.bind (Res.bind (ix a x_151) fun v_154 => (Res.bind (ix b x_153) fun v_155 => (imul v_154 v_155))) fun v_157 => (Res.ok (v_156 + v_157)))) fun v_159 => (Res.ok ((v_159, (x_151 + x_153)) : (Int × Int))))) (by decide) Sub.nil rfl (fun η hl h => (bE (u_op2 (bE (u_ixAt (xs := s_152) h rfl (u_op2 (bP (e_var (x := x_151) h 4 rfl) (bP (e_var (x := x_153) h 5 rfl) (l_add (x := x_151) (y := x_153)))))) fun v_156 => (bE (u_op2 (bE (u_op2 (bP (e_var (x := a) h 0 rfl) (bP (e_var (x := x_151) h 4 rfl) (l_ix (xs := a) (x := x_151))))) fun v_154 => (bE (u_op2 (bP (e_var (x := b) h 1 rfl) (bP (e_var (x := x_153) h 5 rfl) (l_ix (xs := b) (x := x_153))))) fun v_155 => (l_mul (x := v_154) (y := v_155))))) fun v_157 => (l_add (x := v_156) (y := v_157))))) fun v_159 => (bP (u_op2 (bP (e_var (x := x_151) h 4 rfl) (bP (e_var (x := x_153) h 5 rfl) (l_add (x := x_151) (y := x_153))))) rfl))) fun full_158 => (k_end (Sub.of ⟨rfl, rfl, rfl, rfl, rfl, trivial⟩)))) fun s_160 => (k_end (Sub.of ⟨rfl, rfl, rfl, rfl, trivial⟩)))) fun s_162 => (k_retE Sub.nil fun η hl h => (compI (i_range1P (e_var (x := size_146) h 2 rfl)) fun xs_166 hi => (compE hl h hi (fun x_163 => (t_name 6 (by decide))) (fun x_163 η hl h => (u_op2 (bE (u_op2 (bP (e_var (x := s_162) h 3 rfl) (bP (e_var (x := x_163) h 6 rfl) (l_ix (xs := s_162) (x := x_163))))) fun v_164 => (bE (u_op2 (bP (e_var (x := s_162) h 3 rfl) (bP (u_op2 (bP (e_var (x := x_163) h 6 rfl) (bP (e_var (x := size_146) h 2 rfl) (l_add (x := x_163) (y := size_146))))) (l_ix (xs := s_162) (x := (x_163 + size_146)))))) fun v_165 => (l_sub (x := v_164) (y := v_165)))))))))))))))
noncomputable def p__law_sizes (a : (List Int)) (b : (List Int)) (k : Int) : Res Bool := (tRun (onE (Res.bind (cmap (fun (x_99 : Int) => (iabs x_99)) a) fun v_100 => (imaxL v_100)) fun great_101 => (onE (Res.bind (cmap (fun (x_102 : Int) => (iabs x_102)) a) fun v_103 => (Res.ok (List.sum v_103))) fun total_104 => (onE (ror (Res.bind (Res.bind (p_norm a) fun v_108 => (p__law_integer v_108)) fun c => .ok (!c)) (ror (Res.bind (p_norm a) fun v_109 => (Res.ok (!decide (v_109 = great_101)))) (ror (Res.bind (Res.bind (p_norm_one a) fun v_113 => (p__law_integer v_113)) fun c => .ok (!c)) (Res.bind (p_norm_one a) fun v_114 => (Res.ok (!decide (v_114 = total_104))))))) fun c => if c then (.rt false) else (onE (Res.bind (p_shift a k) fun v_139 => (Res.bind (Res.bind (Res.bind (imul (2 : Int) k) fun v_125 => (Res.ok (v_125 + (1 : Int)))) fun v_138 => (p_turn a v_138)) fun v_140 => (Res.ok ([v_139, v_140] : List (List Int))))) fun xs_176 => TF.bind (tFor xs_176 (() : Unit) (fun (x_142 : (List Int)) (s_141 : Unit) => (onE (ror (Res.bind (p_norm x_142) fun v_143 => (Res.ok (!decide (v_143 = great_101)))) (Res.bind (p_norm_one x_142) fun v_144 => (Res.ok (!decide (v_144 = total_104))))) fun c => if c then (.rt false) else (.nx ())))) fun s_145 => (if (decide ((ilen a) > (128 : Int))) then (.rt true) else (onE (p__law_times a b) fun product_168 => (onE (ror (Res.bind (p_norm product_168) fun v_170 => (Res.bind (Res.bind (p_norm b) fun v_169 => (imul total_104 v_169)) fun v_171 => (Res.ok (decide (v_170 > v_171))))) (Res.bind (imul (ilen a) great_101) fun v_172 => (Res.ok (decide (total_104 > v_172))))) fun c => if c then (.rt false) else (onE (Res.bind (p_norm_one product_168) fun v_174 => (Res.bind (Res.bind (p_norm_one b) fun v_173 => (imul total_104 v_173)) fun v_175 => (Res.ok (decide (v_174 ≤ v_175))))) TF.rt)))))))))
theorem s__law_sizes (a : (List Int)) (b : (List Int)) (k : Int) : Sm Enc.enc (f__law_sizes [Enc.enc a, Enc.enc b, Enc.enc k]) (p__law_sizes a b k) := by
  unfold f__law_sizes b__law_sizes w__law_sizes_0 c__law_sizes_1 c__law_sizes_0
  exact fn_sim rfl (by decide) (k_seq (k_asgE (r := (Res.bind (cmap (fun (x_99 : Int) => (iabs x_99)) a) fun v_100 => (imaxL v_100))) (by decide) Sub.nil (fun η hl h => (u_call (a_consE (compP hl h (i_seqP (e_var (x := a) h 0 rfl)) (fun x_99 => (t_name 7 (by decide))) (fun x_99 η hl h => (u_call (a_consP (e_var (x := x_99) h 7 rfl) (a_nil (l_abs (x := x_99))))))) fun v_100 => (a_nil (l_max (xs := v_100)))))) fun great_101 => (k_seq (k_asgE (r := (Res.bind (cmap (fun (x_102 : Int) => (iabs x_102)) a) fun v_103 => (Res.ok (List.sum v_103)))) (by decide) Sub.nil (fun η hl h => (u_call (a_consE (compP hl h (i_seqP (e_var (x := a) h 0 rfl)) (fun x_102 => (t_name 7 (by decide))) (fun x_102 η hl h => (u_call (a_consP (e_var (x := x_102) h 7 rfl) (a_nil (l_abs (x := x_102))))))) fun v_103 => (a_nil (l_sum (xs := v_103)))))) fun total_104 => (k_seq (k_ifE Sub.nil (fun η hl h => (u_qOr (u_qNot (u_qTruB (u_call (a_consE (u_call (a_consP (e_var (x := a) h 0 rfl) (a_nil (s_norm a)))) fun v_108 => (a_nil (s__law_integer v_108)))))) (u_qOr (u_qB (u_op2 (bE (u_call (a_consP (e_var (x := a) h 0 rfl) (a_nil (s_norm a)))) fun v_109 => (bP (e_var (x := great_101) h 3 rfl) (l_ne (x := v_109) (y := great_101)))))) (u_qOr (u_qNot (u_qTruB (u_call (a_consE (u_call (a_consP (e_var (x := a) h 0 rfl) (a_nil (s_norm_one a)))) fun v_113 => (a_nil (s__law_integer v_113)))))) (u_qB (u_op2 (bE (u_call (a_consP (e_var (x := a) h 0 rfl) (a_nil (s_norm_one a)))) fun v_114 => (bP (e_var (x := total_104) h 4 rfl) (l_ne (x := v_114) (y := total_104)))))))))) (k_retP fun η hl h => (e_lit (x := false) rfl)) (k_next (k_seq (k_for (ri := (Res.bind (p_shift a k) fun v_139 => (Res.bind (Res.bind (Res.bind (imul (2 : Int) k) fun v_125 => (Res.ok (v_125 + (1 : Int)))) fun v_138 => (p_turn a v_138)) fun v_140 => (Res.ok ([v_139, v_140] : List (List Int)))))) (fun (s_141 : Unit) => [(0, Enc.enc a), (1, Enc.enc b), (3, Enc.enc great_101), (4, Enc.enc total_104)]) (s0 := (() : Unit)) Sub.nil (fun η hl h => (i_seqE (u_lst (a_consE (u_call (a_consP (e_var (x := a) h 0 rfl) (a_consP (e_var (x := k) h 2 rfl) (a_nil (s_shift a k))))) fun v_139 => (a_consE (u_call (a_consP (e_var (x := a) h 0 rfl) (a_consE (u_op2 (bE (u_op2 (bP (e_lit (x := (2 : Int)) rfl) (bP (e_var (x := k) h 2 rfl) (l_mul (x := (2 : Int)) (y := k))))) fun v_125 => (bP (e_lit (x := (1 : Int)) rfl) (l_add (x := v_125) (y := (1 : Int)))))) fun v_138 => (a_nil (s_turn a v_138))))) fun v_140 => (a_nil (l_lst (xs := ([v_139, v_140] : List (List Int))) rfl rfl))))))) (Sub.of ⟨rfl, rfl, rfl, rfl, trivial⟩) (fun x_142 s_141 => (t_name 5 (by decide))) (fun x_142 s_141 => (k_ifE Sub.nil (fun η hl h => (u_qOr (u_qB (u_op2 (bE (u_call (a_consP (e_var (x := x_142) h 5 rfl) (a_nil (s_norm x_142)))) fun v_143 => (bP (e_var (x := great_101) h 3 rfl) (l_ne (x := v_143) (y := great_101)))))) (u_qB (u_op2 (bE (u_call (a_consP (e_var (x := x_142) h 5 rfl) (a_nil (s_norm_one x_142)))) fun v_144 => (bP (e_var (x := total_104) h 4 rfl) (l_ne (x := v_144) (y := total_104)))))))) (k_retP fun η hl h => (e_lit (x := false) rfl)) (k_next (k_end (Sub.of ⟨rfl, rfl, rfl, rfl, trivial⟩))))) fun s_145 => (k_seq (k_ifP (fun η hl h => (u_qB (u_op2 (bP (u_call (a_consP (e_var (x := a) h 0 rfl) (a_nil (l_len (xs := a))))) (bP (e_lit (x := (128 : Int)) rfl) (l_gt (x := (ilen a)) (y := (128 : Int)))))))) (k_retP fun η hl h => (e_lit (x := true) rfl)) (k_next (k_seq (k_asgE (r := (p__law_times a b)) (by decide) Sub.nil (fun η hl h => (u_call (a_consP (e_var (x := a) h 0 rfl) (a_consP (e_var (x := b) h 1 rfl) (a_nil (s__law_times a b)))))) fun product_168 => (k_seq (k_ifE Sub.nil (fun η hl h => (u_qOr (u_qB (u_op2 (bE (u_call (a_consP (e_var (x := product_168) h 6 rfl) (a_nil (s_norm product_168)))) fun v_170 => (bE (u_op2 (bP (e_var (x := total_104) h 4 rfl) (bE (u_call (a_consP (e_var (x := b) h 1 rfl) (a_nil (s_norm b)))) fun v_169 => (l_mul (x := total_104) (y := v_169))))) fun v_171 => (l_gt (x := v_170) (y := v_171)))))) (u_qB (u_op2 (bP (e_var (x := total_104) h 4 rfl) (bE (u_op2 (bP (u_call (a_consP (e_var (x := a) h 0 rfl) (a_nil (l_len (xs := a))))) (bP (e_var (x := great_101) h 3 rfl) (l_mul (x := (ilen a)) (y := great_101))))) fun v_172 => (l_gt (x := total_104) (y := v_172)))))))) (k_retP fun η hl h => (e_lit (x := false) rfl)) (k_next (k_retE Sub.nil fun η hl h => (u_op2 (bE (u_call (a_consP (e_var (x := product_168) h 6 rfl) (a_nil (s_norm_one product_168)))) fun v_174 => (bE (u_op2 (bP (e_var (x := total_104) h 4 rfl) (bE (u_call (a_consP (e_var (x := b) h 1 rfl) (a_nil (s_norm_one b)))) fun v_173 => (l_mul (x := total_104) (y := v_173))))) fun v_175 => (l_le (x := v_174) (y := v_175)))))))))))))))))))))))
noncomputable def p_worst_partner (a : (List Int)) (place : Int) (size : Int) : Res (List Int) := (tRun (onE (p_check_size (ilen a)) fun u_202 => (if (!((decide ((0 : Int) ≤ place)) && (decide (place < (ilen a))))) then (.ex .range) else (if (decide (size < (0 : Int))) then (.ex .range) else (onE (lrep ([size] : List Int) (ilen a)) fun result_192 => (TF.bind (tFor (enumL 0 a) (result_192 : ((List Int))) (fun (x_194 : (Int × Int)) (s_193 : ((List Int))) => (onE (Res.ok (place - x_194.1)) fun j_195 => (onE (Res.ok (if (decide (x_194.2 ≥ (0 : Int))) then (1 : Int) else (-(1 : Int)))) fun sign_196 => (if (decide (j_195 ≥ (0 : Int))) then (onE (Res.bind (Res.bind (imul sign_196 size) fun v_198 => (Res.ok ((v_198, j_195) : (Int × Int)))) fun p => setI s_193 p.2 p.1) fun result_197 => (.nx result_197)) else (if (!decide (x_194.2 = (0 : Int))) then (onE (Res.bind (Res.bind (imul (-sign_196) size) fun v_200 => (Res.ok ((v_200, (j_195 + (ilen a))) : (Int × Int)))) fun p => setI s_193 p.2 p.1) fun result_199 => (.nx result_199)) else (.nx s_193))))))) fun s_201 => (.rt s_201)))))))
theorem s_worst_partner (a : (List Int)) (place : Int) (size : Int) : Sm Enc.enc (f_worst_partner [Enc.enc a, Enc.enc place, Enc.enc size]) (p_worst_partner a place size) := by
  unfold f_worst_partner b_worst_partner w_worst_partner_0
  exact fn_sim rfl (by decide) (k_seq (k_exprE Sub.nil (fun η hl h => (u_call (a_consP (u_call (a_consP (e_var (x := a) h 0 rfl) (a_nil (l_len (xs := a))))) (a_nil (s_check_size (ilen a)))))) fun u_202 => (k_seq (k_ifP (fun η hl h => (u_qNotP (u_qB (u_chain' (bP (e_lit (x := (0 : Int)) rfl) (bP (e_var (x := place) h 1 rfl) (chain_inP (l_le (x := (0 : Int)) (y := place)) (bP (u_call (a_consP (e_var (x := a) h 0 rfl) (a_nil (l_len (xs := a))))) (l_lt (x := place) (y := (ilen a))))))))))) (k_raise .range Sub.nil) (k_next (k_seq (k_ifP (fun η hl h => (u_qB (u_op2 (bP (e_var (x := size) h 2 rfl) (bP (e_lit (x := (0 : Int)) rfl) (l_lt (x := size) (y := (0 : Int)))))))) (k_raise .range Sub.nil) (k_next (k_seq (k_asgE (r := (lrep ([size] : List Int) (ilen a))) (by decide) Sub.nil (fun η hl h => (u_op2 (bP (u_lst (a_consP (e_var (x := size) h 2 rfl) (a_nil (l_lst (xs := ([size] : List Int)) rfl rfl)))) (bP (u_call (a_consP (e_var (x := a) h 0 rfl) (a_nil (l_len (xs := a))))) (l_rep (xs := ([size] : List Int)) (k := (ilen a))))))) fun result_192 => (k_seq (k_forP (xs := (enumL 0 a)) (fun (s_193 : ((List Int))) => [(0, Enc.enc a), (1, Enc.enc place), (2, Enc.enc size), (3, Enc.enc s_193)]) (s0 := (result_192 : ((List Int)))) (fun η hl h => (i_enumP (e_var (x := a) h 0 rfl))) (Sub.of ⟨rfl, rfl, rfl, rfl, trivial⟩) (fun x_194 s_193 => (t_tup (ts_cons (t_name 4 (by decide)) (ts_cons (t_name 5 (by decide)) ts_nil)))) (fun x_194 s_193 => (k_seq (k_asgE (r := (Res.ok (place - x_194.1))) (by decide) Sub.nil (fun η hl h => (u_op2 (bP (e_var (x := place) h 1 rfl) (bP (e_var (x := x_194.1) h 4 rfl) (l_sub (x := place) (y := x_194.1)))))) fun j_195 => (k_seq (k_asgE (r := (Res.ok (if (decide (x_194.2 ≥ (0 : Int))) then (1 : Int) else (-(1 : Int))))) (by decide) Sub.nil (fun η hl h => (u_ifP (u_qB (u_op2 (bP (e_var (x := x_194.2) h 5 rfl) (bP (e_lit (x := (0 : Int)) rfl) (l_ge (x := x_194.2) (y := (0 : Int))))))) (e_lit (x := (1 : Int)) rfl) (u_op1 (bP (e_lit (x := (1 : Int)) rfl) (l_neg (x := (1 : Int))))))) fun sign_196 => (k_ifP (fun η hl h => (u_qB (u_op2 (bP (e_var (x := j_195) h 6 rfl) (bP (e_lit (x := (0 : Int)) rfl) (l_ge (x := j_195) (y := (0 : Int)))))))) (k_setE (xs := s_193) (r := (Res.bind (imul sign_196 size) fun v_198 => (Res.ok ((v_198, j_195) : (Int × Int))))) (by decide) Sub.nil rfl (fun η hl h => (bE (u_op2 (bP (e_var (x := sign_196) h 7 rfl) (bP (e_var (x := size) h 2 rfl) (l_mul (x := sign_196) (y := size))))) fun v_198 => (bP (e_var (x := j_195) h 6 rfl) rfl))) fun result_197 => (k_end (Sub.of ⟨rfl, rfl, rfl, rfl, trivial⟩))) (k_ifP (fun η hl h => (u_qB (u_op2 (bP (e_var (x := x_194.2) h 5 rfl) (bP (e_lit (x := (0 : Int)) rfl) (l_ne (x := x_194.2) (y := (0 : Int)))))))) (k_setE (xs := s_193) (r := (Res.bind (imul (-sign_196) size) fun v_200 => (Res.ok ((v_200, (j_195 + (ilen a))) : (Int × Int))))) (by decide) Sub.nil rfl (fun η hl h => (bE (u_op2 (bP (u_op1 (bP (e_var (x := sign_196) h 7 rfl) (l_neg (x := sign_196)))) (bP (e_var (x := size) h 2 rfl) (l_mul (x := (-sign_196)) (y := size))))) fun v_200 => (bP (u_op2 (bP (e_var (x := j_195) h 6 rfl) (bP (u_call (a_consP (e_var (x := a) h 0 rfl) (a_nil (l_len (xs := a))))) (l_add (x := j_195) (y := (ilen a)))))) rfl))) fun result_199 => (k_end (Sub.of ⟨rfl, rfl, rfl, rfl, trivial⟩))) (k_next (k_end (Sub.of ⟨rfl, rfl, rfl, rfl, trivial⟩)))))))))) fun s_201 => (k_retP fun η hl h => (e_var (x := s_201) h 3 rfl))))))))))))))
noncomputable def p__law_partner (a : (List Int)) (place : Int) (most : Int) : Res (List Int) := (tRun (onE (Res.ok (ilen a)) fun size_204 => (onE (cmap (fun (x_205 : Int) => most) a) fun row_206 => (onE (irange size_204) fun xs_221 => TF.bind (tFor xs_221 (row_206 : ((List Int))) (fun (x_208 : Int) (s_207 : ((List Int))) => (TF.bind (σ := (Int)) (if (decide ((place - x_208) < (0 : Int))) then (onE (Res.ok (-(1 : Int))) fun sign_210 => (.nx sign_210)) else (.nx (1 : Int))) fun s_211 => (TF.bind (σ := (Int)) (onE (Res.bind (ix a x_208) fun v_212 => (Res.ok (decide (v_212 < (0 : Int))))) fun c => if c then (onE (Res.ok (-s_211)) fun sign_214 => (.nx sign_214)) else (.nx s_211)) fun s_215 => (onE (Res.bind (ix a x_208) fun v_216 => (Res.ok (!decide (v_216 = (0 : Int))))) fun c => if c then (onE (Res.bind (Res.bind (imul s_215 most) fun v_218 => (Res.bind (imod (place - x_208) size_204) fun v_219 => (Res.ok ((v_218, v_219) : (Int × Int))))) fun p => setI s_207 p.2 p.1) fun row_217 => (.nx row_217)) else (.nx s_207)))))) fun s_220 => (.rt s_220)))))
theorem s__law_partner (a : (List Int)) (place : Int) (most : Int) : Sm Enc.enc (f__law_partner [Enc.enc a, Enc.enc place, Enc.enc most]) (p__law_partner a place most) := by
  unfold f__law_partner b__law_partner w__law_partner_0
  exact fn_sim rfl (by decide) (k_seq (k_asgE (r := (Res.ok (ilen a))) (by decide) Sub.nil (fun η hl h => (u_call (a_consP (e_var (x := a) h 0 rfl) (a_nil (l_len (xs := a)))))) fun size_204 => (k_seq (k_asgE (r := (cmap (fun (x_205 : Int) => most) a)) (by decide) Sub.nil (fun η hl h => (compP hl h (i_seqP (e_var (x := a) h 0 rfl)) (fun x_205 => (t_name 7 (by decide))) (fun x_205 η hl h => (e_var (x := most) h 2 rfl)))) fun row_206 => (k_seq (k_for (ri := (irange size_204)) (fun (s_207 : ((List Int))) => [(0, Enc.enc a), (1, Enc.enc place), (2, Enc.enc most), (3, Enc.enc size_204), (4, Enc.enc s_207)]) (s0 := (row_206 : ((List Int)))) Sub.nil (fun η hl h => (i_range1P (e_var (x := size_204) h 3 rfl))) (Sub.of ⟨rfl, rfl, rfl, rfl, rfl, trivial⟩) (fun x_208 s_207 => (t_name 5 (by decide))) (fun x_208 s_207 => (k_seq (k_asgP (by decide) (fun η hl h => (e_lit (x := (1 : Int)) rfl)) (k_seq (k_join (Lm := fun (s_211 : (Int)) => [(0, Enc.enc a), (1, Enc.enc place), (2, Enc.enc most), (3, Enc.enc size_204), (4, Enc.enc s_207), (5, Enc.enc x_208), (6, Enc.enc s_211)]) (k_ifP (fun η hl h => (u_qB (u_op2 (bP (u_op2 (bP (e_var (x := place) h 1 rfl) (bP (e_var (x := x_208) h 5 rfl) (l_sub (x := place) (y := x_208))))) (bP (e_lit (x := (0 : Int)) rfl) (l_lt (x := (place - x_208)) (y := (0 : Int)))))))) (k_asgE (r := (Res.ok (-(1 : Int)))) (by decide) Sub.nil (fun η hl h => (u_op1 (bP (e_lit (x := (1 : Int)) rfl) (l_neg (x := (1 : Int)))))) fun sign_210 => (k_end (Sub.of ⟨rfl, rfl, rfl, rfl, rfl, rfl, rfl, trivial⟩))) (k_next (k_end (Sub.of ⟨rfl, rfl, rfl, rfl, rfl, rfl, rfl, trivial⟩)))) fun s_211 => (k_seq (k_join (Lm := fun (s_215 : (Int)) => [(0, Enc.enc a), (1, Enc.enc place), (2, Enc.enc most), (3, Enc.enc size_204), (4, Enc.enc s_207), (5, Enc.enc x_208), (6, Enc.enc s_215)]) (k_ifE Sub.nil (fun η hl h => (u_qB (u_op2 (bE (u_op2 (bP (e_var (x := a) h 0 rfl) (bP (e_var (x := x_208) h 5 rfl) (l_ix (xs := a) (x := x_208))))) fun v_212 => (bP (e_lit (x := (0 : Int)) rfl) (l_lt (x := v_212) (y := (0 : Int)))))))) (k_asgE (r := (Res.ok (-s_211))) (by decide) Sub.nil (fun η hl h => (u_op1 (bP (e_var (x := s_211) h 6 rfl) (l_neg (x := s_211))))) fun sign_214 => (k_end (Sub.of ⟨rfl, rfl, rfl, rfl, rfl, rfl, rfl, trivial⟩))) (k_next (k_end (Sub.of ⟨rfl, rfl, rfl, rfl, rfl, rfl, rfl, trivial⟩)))) fun s_215 => (k_ifE Sub.nil (fun η hl h => (u_qB (u_op2 (bE (u_op2 (bP (e_var (x := a) h 0 rfl) (bP (e_var (x := x_208) h 5 rfl) (l_ix (xs := a) (x := x_208))))) fun v_216 => (bP (e_lit (x := (0 : Int)) rfl) (l_ne (x := v_216) (y := (0 : Int)))))))) (k_setE (xs := s_207) (r := (Res.bind (imul s_215 most) fun v_218 => (Res.bind (imod (place - x_208) size_204) fun v_219 => (Res.ok ((v_218, v_219) : (Int × Int)))))) (by decide) Sub.nil rfl (fun η hl h => (bE (u_op2 (bP (e_var (x := s_215) h 6 rfl) (bP (e_var (x := most) h 2 rfl) (l_mul (x := s_215) (y := most))))) fun v_218 => (bE (u_op2 (bP (u_call (a_consP (u_op2 (bP (e_var (x := place) h 1 rfl) (bP (e_var (x := x_208) h 5 rfl) (l_sub (x := place) (y := x_208))))) (a_nil (l_int (x := (place - x_208)))))) (bP (e_var (x := size_204) h 3 rfl) (l_mod (x := (place - x_208)) (y := size_204))))) fun v_219 => rfl))) fun row_217 => (k_end (Sub.of ⟨rfl, rfl, rfl, rfl, rfl, trivial⟩))) (k_next (k_end (Sub.of ⟨rfl, rfl, rfl, rfl, rfl, trivial⟩))))))))))) fun s_220 => (k_retP fun η hl h => (e_var (x := s_220) h 4 rfl))))))))
noncomputable def p__law_is_list (actual : (List Int)) (due : (List Int)) : Res Bool := (tRun (if ((!true) || (!decide ((ilen actual) = (ilen due)))) then (.rt false) else (TF.bind (tFor (List.zip actual due) (() : Unit) (fun (x_223 : (Int × Int)) (s_222 : Unit) => (onE (ror (Res.bind (p__law_integer x_223.1) fun c => .ok (!c)) (Res.ok (!decide (x_223.1 = x_223.2)))) fun c => if c then (.rt false) else (.nx ())))) fun s_224 => (.rt true))))
theorem s__law_is_list (actual : (List Int)) (due : (List Int)) : Sm Enc.enc (f__law_is_list [Enc.enc actual, Enc.enc due]) (p__law_is_list actual due) := by
  unfold f__law_is_list b__law_is_list w__law_is_list_0
  exact fn_sim rfl (by decide) (k_seq (k_ifP (fun η hl h => (u_qOrP (u_qNotP (u_qTruB (u_op1 (bP (e_var (x := actual) h 0 rfl) (l_isTy rfl))))) (u_qB (u_op2 (bP (u_call (a_consP (e_var (x := actual) h 0 rfl) (a_nil (l_len (xs := actual))))) (bP (u_call (a_consP (e_var (x := due) h 1 rfl) (a_nil (l_len (xs := due))))) (l_ne (x := (ilen actual)) (y := (ilen due))))))))) (k_retP fun η hl h => (e_lit (x := false) rfl)) (k_next (k_seq (k_forP (xs := (List.zip actual due)) (fun (s_222 : Unit) => []) (s0 := (() : Unit)) (fun η hl h => (i_zipP (e_var (x := actual) h 0 rfl) (e_var (x := due) h 1 rfl))) Sub.nil (fun x_223 s_222 => (t_tup (ts_cons (t_name 2 (by decide)) (ts_cons (t_name 3 (by decide)) ts_nil)))) (fun x_223 s_222 => (k_ifE Sub.nil (fun η hl h => (u_qOr (u_qNot (u_qTruB (u_call (a_consP (e_var (x := x_223.1) h 2 rfl) (a_nil (s__law_integer x_223.1)))))) (u_qB (u_op2 (bP (e_var (x := x_223.1) h 2 rfl) (bP (e_var (x := x_223.2) h 3 rfl) (l_ne (x := x_223.1) (y := x_223.2)))))))) (k_retP fun η hl h => (e_lit (x := false) rfl)) (k_next (k_end Sub.nil)))) fun s_224 => (k_retP fun η hl h => (e_lit (x := true) rfl)))))))
noncomputable def p_check_modulus (k : Int) : Res Unit := (tRunF () (if (decide (k < (1 : Int))) then (.ex .range) else (.nx ())))
theorem s_check_modulus (k : Int) : Sm Enc.enc (f_check_modulus [Enc.enc k]) (p_check_modulus k) := by
  unfold f_check_modulus b_check_modulus
  exact fn_simF (r0 := ()) rfl rfl (by decide) (k_ifP (fun η hl h => (u_qB (u_op2 (bP (e_var (x := k) h 0 rfl) (bP (e_lit (x := (1 : Int)) rfl) (l_lt (x := k) (y := (1 : Int)))))))) (k_raise .range Sub.nil) (k_next (k_end Sub.nil)))
noncomputable def p_residues (a : (List Int)) (k : Int) : Res (List Int) := (tRun (onE (p_check_size (ilen a)) fun u_248 => (onE (p_check_modulus k) fun u_247 => (onE (cmapE (fun (x_246 : Int) => (imod x_246 k)) a) TF.rt))))
theorem s_residues (a : (List Int)) (k : Int) : Sm Enc.enc (f_residues [Enc.enc a, Enc.enc k]) (p_residues a k) := by
  unfold f_residues b_residues c_residues_0
  exact fn_sim rfl (by decide) (k_seq (k_exprE Sub.nil (fun η hl h => (u_call (a_consP (u_call (a_consP (e_var (x := a) h 0 rfl) (a_nil (l_len (xs := a))))) (a_nil (s_check_size (ilen a)))))) fun u_248 => (k_seq (k_exprE Sub.nil (fun η hl h => (u_call (a_consP (e_var (x := k) h 1 rfl) (a_nil (s_check_modulus k))))) fun u_247 => (k_retE Sub.nil fun η hl h => (compE hl h (i_seqP (e_var (x := a) h 0 rfl)) (fun x_246 => (t_name 2 (by decide))) (fun x_246 η hl h => (u_op2 (bP (e_var (x := x_246) h 2 rfl) (bP (e_var (x := k) h 1 rfl) (l_mod (x := x_246) (y := k))))))))))))
noncomputable def p_residue (a : Int) (k : Int) : Res Int := (tRun (onE (p_check_modulus k) fun u_250 => (onE (imod a k) TF.rt)))
theorem s_residue (a : Int) (k : Int) : Sm Enc.enc (f_residue [Enc.enc a, Enc.enc k]) (p_residue a k) := by
  unfold f_residue b_residue
  exact fn_sim rfl (by decide) (k_seq (k_exprE Sub.nil (fun η hl h => (u_call (a_consP (e_var (x := k) h 1 rfl) (a_nil (s_check_modulus k))))) fun u_250 => (k_retE Sub.nil fun η hl h => (u_op2 (bP (e_var (x := a) h 0 rfl) (bP (e_var (x := k) h 1 rfl) (l_mod (x := a) (y := k))))))))
noncomputable def p_centred (a : Int) (k : Int) : Res Int := (tRun (onE (p_check_modulus k) fun u_258 => (onE (Res.bind (idiv k (2 : Int)) fun v_256 => (Res.bind (Res.bind (Res.bind (idiv k (2 : Int)) fun v_254 => (Res.ok (v_254 - a))) fun v_255 => (imod v_255 k)) fun v_257 => (Res.ok (v_256 - v_257)))) TF.rt)))
theorem s_centred (a : Int) (k : Int) : Sm Enc.enc (f_centred [Enc.enc a, Enc.enc k]) (p_centred a k) := by
  unfold f_centred b_centred
  exact fn_sim rfl (by decide) (k_seq (k_exprE Sub.nil (fun η hl h => (u_call (a_consP (e_var (x := k) h 1 rfl) (a_nil (s_check_modulus k))))) fun u_258 => (k_retE Sub.nil fun η hl h => (u_op2 (bE (u_op2 (bP (e_var (x := k) h 1 rfl) (bP (e_lit (x := (2 : Int)) rfl) (l_div (x := k) (y := (2 : Int)))))) fun v_256 => (bE (u_op2 (bE (u_op2 (bE (u_op2 (bP (e_var (x := k) h 1 rfl) (bP (e_lit (x := (2 : Int)) rfl) (l_div (x := k) (y := (2 : Int)))))) fun v_254 => (bP (e_var (x := a) h 0 rfl) (l_sub (x := v_254) (y := a))))) fun v_255 => (bP (e_var (x := k) h 1 rfl) (l_mod (x := v_255) (y := k))))) fun v_257 => (l_sub (x := v_256) (y := v_257))))))))
noncomputable def p_centre (a : (List Int)) (k : Int) : Res (List Int) := (tRun (onE (p_check_size (ilen a)) fun u_260 => (onE (p_check_modulus k) fun u_259 => (onE (cmapE (fun (x_253 : Int) => (p_centred x_253 k)) a) TF.rt))))
theorem s_centre (a : (List Int)) (k : Int) : Sm Enc.enc (f_centre [Enc.enc a, Enc.enc k]) (p_centre a k) := by
  unfold f_centre b_centre c_centre_0
  exact fn_sim rfl (by decide) (k_seq (k_exprE Sub.nil (fun η hl h => (u_call (a_consP (u_call (a_consP (e_var (x := a) h 0 rfl) (a_nil (l_len (xs := a))))) (a_nil (s_check_size (ilen a)))))) fun u_260 => (k_seq (k_exprE Sub.nil (fun η hl h => (u_call (a_consP (e_var (x := k) h 1 rfl) (a_nil (s_check_modulus k))))) fun u_259 => (k_retE Sub.nil fun η hl h => (compE hl h (i_seqP (e_var (x := a) h 0 rfl)) (fun x_253 => (t_name 2 (by decide))) (fun x_253 η hl h => (u_call (a_consP (e_var (x := x_253) h 2 rfl) (a_consP (e_var (x := k) h 1 rfl) (a_nil (s_centred x_253 k))))))))))))
noncomputable def p_round_div (a : Int) (b : Int) : Res Int := (tRun (onE (p_check_modulus b) fun u_273 => (onE (Res.bind (Res.bind (imul (2 : Int) a) fun v_270 => (Res.ok (v_270 + b))) fun v_271 => (Res.bind (imul (2 : Int) b) fun v_272 => (idiv v_271 v_272))) TF.rt)))
theorem s_round_div (a : Int) (b : Int) : Sm Enc.enc (f_round_div [Enc.enc a, Enc.enc b]) (p_round_div a b) := by
  unfold f_round_div b_round_div
  exact fn_sim rfl (by decide) (k_seq (k_exprE Sub.nil (fun η hl h => (u_call (a_consP (e_var (x := b) h 1 rfl) (a_nil (s_check_modulus b))))) fun u_273 => (k_retE Sub.nil fun η hl h => (u_op2 (bE (u_op2 (bE (u_op2 (bP (e_lit (x := (2 : Int)) rfl) (bP (e_var (x := a) h 0 rfl) (l_mul (x := (2 : Int)) (y := a))))) fun v_270 => (bP (e_var (x := b) h 1 rfl) (l_add (x := v_270) (y := b))))) fun v_271 => (bE (u_op2 (bP (e_lit (x := (2 : Int)) rfl) (bP (e_var (x := b) h 1 rfl) (l_mul (x := (2 : Int)) (y := b))))) fun v_272 => (l_div (x := v_271) (y := v_272))))))))
noncomputable def p_divide (a : (List Int)) (factor : Int) (divisor : Int) : Res (List Int) := (tRun (onE (p_check_size (ilen a)) fun u_276 => (onE (p_check_modulus divisor) fun u_275 => (onE (cmapE (fun (x_269 : Int) => (Res.bind (imul factor x_269) fun v_274 => (p_round_div v_274 divisor))) a) TF.rt))))
theorem s_divide (a : (List Int)) (factor : Int) (divisor : Int) : Sm Enc.enc (f_divide [Enc.enc a, Enc.enc factor, Enc.enc divisor]) (p_divide a factor divisor) := by
  unfold f_divide b_divide c_divide_0
  exact fn_sim rfl (by decide) (k_seq (k_exprE Sub.nil (fun η hl h => (u_call (a_consP (u_call (a_consP (e_var (x := a) h 0 rfl) (a_nil (l_len (xs := a))))) (a_nil (s_check_size (ilen a)))))) fun u_276 => (k_seq (k_exprE Sub.nil (fun η hl h => (u_call (a_consP (e_var (x := divisor) h 2 rfl) (a_nil (s_check_modulus divisor))))) fun u_275 => (k_retE Sub.nil fun η hl h => (compE hl h (i_seqP (e_var (x := a) h 0 rfl)) (fun x_269 => (t_name 3 (by decide))) (fun x_269 η hl h => (u_call (a_consE (u_op2 (bP (e_var (x := factor) h 1 rfl) (bP (e_var (x := x_269) h 3 rfl) (l_mul (x := factor) (y := x_269))))) fun v_274 => (a_consP (e_var (x := divisor) h 2 rfl) (a_nil (s_round_div v_274 divisor))))))))))))
noncomputable def p_check_digits (base : Int) (count : Int) : Res Unit := (tRunF () (if (decide (base < (3 : Int))) then (.ex .range) else (if (!((decide ((0 : Int) ≤ count)) && (decide (count ≤ (4096 : Int))))) then (.ex .range) else (.nx ()))))
theorem s_check_digits (base : Int) (count : Int) : Sm Enc.enc (f_check_digits [Enc.enc base, Enc.enc count]) (p_check_digits base count) := by
  unfold f_check_digits b_check_digits
  exact fn_simF (r0 := ()) rfl rfl (by decide) (k_seq (k_ifP (fun η hl h => (u_qB (u_op2 (bP (e_var (x := base) h 0 rfl) (bP (e_lit (x := (3 : Int)) rfl) (l_lt (x := base) (y := (3 : Int)))))))) (k_raise .range Sub.nil) (k_next (k_ifP (fun η hl h => (u_qNotP (u_qB (u_chain' (bP (e_lit (x := (0 : Int)) rfl) (bP (e_var (x := count) h 1 rfl) (chain_inP (l_le (x := (0 : Int)) (y := count)) (bP (e_lit (x := (4096 : Int)) rfl) (l_le (x := count) (y := (4096 : Int))))))))))) (k_raise .range Sub.nil) (k_next (k_end Sub.nil))))))
noncomputable def p_digits (v : Int) (base : Int) (count : Int) : Res ((List Int) × Int) := (tRun (onE (p_check_digits base count) fun u_290 => (onE (Res.ok ([] : List Int)) fun found_282 => (onE (irange count) fun xs_289 => TF.bind (tFor xs_289 ((v, found_282) : (Int × (List Int))) (fun (x_284 : Int) (s_283 : (Int × (List Int))) => (onE (p_centred s_283.1 base) fun digit_285 => (onE (lapp s_283.2 digit_285) fun found_286 => (onE (idiv (s_283.1 - digit_285) base) fun v_287 => (.nx (v_287, found_286))))))) fun s_288 => (.rt ((s_288.2, s_288.1) : ((List Int) × Int)))))))
theorem s_digits (v : Int) (base : Int) (count : Int) : Sm Enc.enc (f_digits [Enc.enc v, Enc.enc base, Enc.enc count]) (p_digits v base count) := by
  unfold f_digits b_digits w_digits_0
  exact fn_sim rfl (by decide) (k_seq (k_exprE Sub.nil (fun η hl h => (u_call (a_consP (e_var (x := base) h 1 rfl) (a_consP (e_var (x := count) h 2 rfl) (a_nil (s_check_digits base count)))))) fun u_290 => (k_seq (k_asgE (r := (Res.ok ([] : List Int))) (by decide) Sub.nil (fun η hl h => (u_lst (a_nil (l_lst (xs := ([] : List Int)) rfl rfl)))) fun found_282 => (k_seq (k_for (ri := (irange count)) (fun (s_283 : (Int × (List Int))) => [(0, Enc.enc s_283.1), (1, Enc.enc base), (3, Enc.enc s_283.2)]) (s0 := ((v, found_282) : (Int × (List Int)))) Sub.nil (fun η hl h => (i_range1P (e_var (x := count) h 2 rfl))) (Sub.of ⟨rfl, rfl, rfl, trivial⟩) (fun x_284 s_283 => (t_name 4 (by decide))) (fun x_284 s_283 => (k_seq (k_asgE (r := (p_centred s_283.1 base)) (by decide) Sub.nil (fun η hl h => (u_call (a_consP (e_var (x := s_283.1) h 0 rfl) (a_consP (e_var (x := base) h 1 rfl) (a_nil (s_centred s_283.1 base)))))) fun digit_285 => (k_seq (k_appP (xs := s_283.2) (x := digit_285) (by decide) Sub.nil rfl (fun η hl h => (e_var (x := digit_285) h 5 rfl)) fun found_286 => (k_asgE (r := (idiv (s_283.1 - digit_285) base)) (by decide) Sub.nil (fun η hl h => (u_op2 (bP (u_op2 (bP (e_var (x := s_283.1) h 0 rfl) (bP (e_var (x := digit_285) h 5 rfl) (l_sub (x := s_283.1) (y := digit_285))))) (bP (e_var (x := base) h 1 rfl) (l_div (x := (s_283.1 - digit_285)) (y := base)))))) fun v_287 => (k_end (Sub.of ⟨rfl, rfl, rfl, trivial⟩)))))))) fun s_288 => (k_retP fun η hl h => (u_tup (a_consP (e_var (x := s_288.2) h 3 rfl) (a_consP (e_var (x := s_288.1) h 0 rfl) (a_nil (l_tup (p := ((s_288.2, s_288.1) : ((List Int) × Int))) rfl rfl))))))))))))
noncomputable def p_split (a : (List Int)) (base : Int) (count : Int) : Res ((List (List Int)) × (List Int)) := (tRun (onE (p_check_size (ilen a)) fun u_299 => (onE (p_check_digits base count) fun u_298 => (onE (cmapE (fun (x_281 : Int) => (p_digits x_281 base count)) a) fun rows_291 => (onE (Res.bind (Res.bind (irange count) fun xs_294 => (cmapE (fun (x_292 : Int) => (cmapE (fun (x_293 : ((List Int) × Int)) => (ix x_293.1 x_292)) rows_291)) xs_294)) fun v_296 => (Res.bind (cmap (fun (x_295 : ((List Int) × Int)) => x_295.2) rows_291) fun v_297 => (Res.ok ((v_296, v_297) : ((List (List Int)) × (List Int)))))) TF.rt)))))
theorem s_split (a : (List Int)) (base : Int) (count : Int) : Sm Enc.enc (f_split [Enc.enc a, Enc.enc base, Enc.enc count]) (p_split a base count) := by
  unfold f_split b_split c_split_3 c_split_2 c_split_1 c_split_0
  exact fn_sim rfl (by decide) (k_seq (k_exprE Sub.nil (fun η hl h => (u_call (a_consP (u_call (a_consP (e_var (x := a) h 0 rfl) (a_nil (l_len (xs := a))))) (a_nil (s_check_size (ilen a)))))) fun u_299 => (k_seq (k_exprE Sub.nil (fun η hl h => (u_call (a_consP (e_var (x := base) h 1 rfl) (a_consP (e_var (x := count) h 2 rfl) (a_nil (s_check_digits base count)))))) fun u_298 => (k_seq (k_asgE (r := (cmapE (fun (x_281 : Int) => (p_digits x_281 base count)) a)) (by decide) Sub.nil (fun η hl h => (compE hl h (i_seqP (e_var (x := a) h 0 rfl)) (fun x_281 => (t_name 4 (by decide))) (fun x_281 η hl h => (u_call (a_consP (e_var (x := x_281) h 4 rfl) (a_consP (e_var (x := base) h 1 rfl) (a_consP (e_var (x := count) h 2 rfl) (a_nil (s_digits x_281 base count))))))))) fun rows_291 => (k_retE Sub.nil fun η hl h => (u_tup (a_consE (compI (i_range1P (e_var (x := count) h 2 rfl)) fun xs_294 hi => (compE hl h hi (fun x_292 => (t_name 5 (by decide))) (fun x_292 η hl h => (compE hl h (i_seqP (e_var (x := rows_291) h 3 rfl)) (fun x_293 => (t_name 6 (by decide))) (fun x_293 η hl h => (u_op2 (bP (u_op2 (bP (e_var (x := x_293) h 6 rfl) (bP (e_lit (x := (0 : Int)) rfl) l_ix20))) (bP (e_var (x := x_292) h 5 rfl) (l_ix (xs := x_293.1) (x := x_292)))))))))) fun v_296 => (a_consE (compP hl h (i_seqP (e_var (x := rows_291) h 3 rfl)) (fun x_295 => (t_name 6 (by decide))) (fun x_295 η hl h => (u_op2 (bP (e_var (x := x_295) h 6 rfl) (bP (e_lit (x := (1 : Int)) rfl) l_ix21))))) fun v_297 => (a_nil (l_tup (p := ((v_296, v_297) : ((List (List Int)) × (List Int)))) rfl rfl))))))))))))
noncomputable def p__law_items (a : (List Int)) (k : Int) (base : Int) (count : Int) : Res Bool := (tRun (onE (Res.ok a) fun given_245 => (onE (Res.bind (Res.bind (p_residues given_245 k) fun v_251 => (Res.bind (cmapE (fun (x_249 : Int) => (p_residue x_249 k)) a) fun v_252 => (p__law_is_list v_251 v_252))) fun c => .ok (!c)) fun c => if c then (.rt false) else (onE (Res.bind (Res.bind (p_centre given_245 k) fun v_262 => (Res.bind (cmapE (fun (x_261 : Int) => (p_centred x_261 k)) a) fun v_263 => (p__law_is_list v_262 v_263))) fun c => .ok (!c)) fun c => if c then (.rt false) else (onE (Res.bind (Res.bind (Res.bind (imul base base) fun v_264 => (Res.ok (v_264 + k))) fun v_265 => (Res.ok ([(7 : Int), (0 : Int), (-(1 : Int)), (1 : Int), ((0 : Int) - base), v_265] : List Int))) fun v_266 => (Res.bind (imod base (6 : Int)) fun v_267 => (ix v_266 v_267))) fun factor_268 => (onE (Res.bind (Res.bind (p_divide given_245 factor_268 k) fun v_279 => (Res.bind (cmapE (fun (x_277 : Int) => (Res.bind (imul factor_268 x_277) fun v_278 => (p_round_div v_278 k))) a) fun v_280 => (p__law_is_list v_279 v_280))) fun c => .ok (!c)) fun c => if c then (.rt false) else (onE (p_split given_245 base count) fun found_300 => (if ((!true) || ((!decide (2 = (2 : Int))) || ((!true) || (!decide ((ilen found_300.1) = count))))) then (.rt false) else (onE (cmapE (fun (x_301 : Int) => (p_digits x_301 base count)) a) fun rows_302 => (onE (irange count) fun xs_311 => TF.bind (tFor xs_311 (() : Unit) (fun (x_304 : Int) (s_303 : Unit) => (onE (Res.bind (Res.bind (ix found_300.1 x_304) fun v_306 => (Res.bind (cmapE (fun (x_305 : ((List Int) × Int)) => (ix x_305.1 x_304)) rows_302) fun v_307 => (p__law_is_list v_306 v_307))) fun c => .ok (!c)) fun c => if c then (.rt false) else (.nx ())))) fun s_308 => (onE (rand (Res.bind (cmap (fun (x_309 : ((List Int) × Int)) => x_309.2) rows_302) fun v_310 => (p__law_is_list found_300.2 v_310)) (Res.ok (decide (given_245 = a)))) TF.rt)))))))))))
theorem s__law_items (a : (List Int)) (k : Int) (base : Int) (count : Int) : Sm Enc.enc (f__law_items [Enc.enc a, Enc.enc k, Enc.enc base, Enc.enc count]) (p__law_items a k base count) := by
  unfold f__law_items b__law_items t__law_items_0 c__law_items_5 w__law_items_0 c__law_items_4 c__law_items_3 c__law_items_2 c__law_items_1 c__law_items_0
  exact fn_sim rfl (by decide) (k_seq (k_asgE (r := (Res.ok a)) (by decide) Sub.nil (fun η hl h => (u_call (a_consP (e_var (x := a) h 0 rfl) (a_nil (l_list (xs := a)))))) fun given_245 => (k_seq (k_ifE Sub.nil (fun η hl h => (u_qNot (u_qTruB (u_call (a_consE (u_call (a_consP (e_var (x := given_245) h 4 rfl) (a_consP (e_var (x := k) h 1 rfl) (a_nil (s_residues given_245 k))))) fun v_251 => (a_consE (compE hl h (i_seqP (e_var (x := a) h 0 rfl)) (fun x_249 => (t_name 9 (by decide))) (fun x_249 η hl h => (u_call (a_consP (e_var (x := x_249) h 9 rfl) (a_consP (e_var (x := k) h 1 rfl) (a_nil (s_residue x_249 k))))))) fun v_252 => (a_nil (s__law_is_list v_251 v_252)))))))) (k_retP fun η hl h => (e_lit (x := false) rfl)) (k_next (k_seq (k_ifE Sub.nil (fun η hl h => (u_qNot (u_qTruB (u_call (a_consE (u_call (a_consP (e_var (x := given_245) h 4 rfl) (a_consP (e_var (x := k) h 1 rfl) (a_nil (s_centre given_245 k))))) fun v_262 => (a_consE (compE hl h (i_seqP (e_var (x := a) h 0 rfl)) (fun x_261 => (t_name 9 (by decide))) (fun x_261 η hl h => (u_call (a_consP (e_var (x := x_261) h 9 rfl) (a_consP (e_var (x := k) h 1 rfl) (a_nil (s_centred x_261 k))))))) fun v_263 => (a_nil (s__law_is_list v_262 v_263)))))))) (k_retP fun η hl h => (e_lit (x := false) rfl)) (k_next (k_seq (k_asgE (r := (Res.bind (Res.bind (Res.bind (imul base base) fun v_264 => (Res.ok (v_264 + k))) fun v_265 => (Res.ok ([(7 : Int), (0 : Int), (-(1 : Int)), (1 : Int), ((0 : Int) - base), v_265] : List Int))) fun v_266 => (Res.bind (imod base (6 : Int)) fun v_267 => (ix v_266 v_267)))) (by decide) Sub.nil (fun η hl h => (u_op2 (bE (u_lst (a_consP (e_lit (x := (7 : Int)) rfl) (a_consP (e_lit (x := (0 : Int)) rfl) (a_consP (u_op1 (bP (e_lit (x := (1 : Int)) rfl) (l_neg (x := (1 : Int))))) (a_consP (e_lit (x := (1 : Int)) rfl) (a_consP (u_op2 (bP (e_lit (x := (0 : Int)) rfl) (bP (e_var (x := base) h 2 rfl) (l_sub (x := (0 : Int)) (y := base))))) (a_consE (u_op2 (bE (u_op2 (bP (e_var (x := base) h 2 rfl) (bP (e_var (x := base) h 2 rfl) (l_mul (x := base) (y := base))))) fun v_264 => (bP (e_var (x := k) h 1 rfl) (l_add (x := v_264) (y := k))))) fun v_265 => (a_nil (l_lst (xs := ([(7 : Int), (0 : Int), (-(1 : Int)), (1 : Int), ((0 : Int) - base), v_265] : List Int)) rfl rfl))))))))) fun v_266 => (bE (u_op2 (bP (u_call (a_consP (e_var (x := base) h 2 rfl) (a_nil (l_int (x := base))))) (bP (e_lit (x := (6 : Int)) rfl) (l_mod (x := base) (y := (6 : Int)))))) fun v_267 => (l_ix (xs := v_266) (x := v_267)))))) fun factor_268 => (k_seq (k_ifE Sub.nil (fun η hl h => (u_qNot (u_qTruB (u_call (a_consE (u_call (a_consP (e_var (x := given_245) h 4 rfl) (a_consP (e_var (x := factor_268) h 5 rfl) (a_consP (e_var (x := k) h 1 rfl) (a_nil (s_divide given_245 factor_268 k)))))) fun v_279 => (a_consE (compE hl h (i_seqP (e_var (x := a) h 0 rfl)) (fun x_277 => (t_name 9 (by decide))) (fun x_277 η hl h => (u_call (a_consE (u_op2 (bP (e_var (x := factor_268) h 5 rfl) (bP (e_var (x := x_277) h 9 rfl) (l_mul (x := factor_268) (y := x_277))))) fun v_278 => (a_consP (e_var (x := k) h 1 rfl) (a_nil (s_round_div v_278 k))))))) fun v_280 => (a_nil (s__law_is_list v_279 v_280)))))))) (k_retP fun η hl h => (e_lit (x := false) rfl)) (k_next (k_seq (k_asgE (r := (p_split given_245 base count)) (by decide) Sub.nil (fun η hl h => (u_call (a_consP (e_var (x := given_245) h 4 rfl) (a_consP (e_var (x := base) h 2 rfl) (a_consP (e_var (x := count) h 3 rfl) (a_nil (s_split given_245 base count))))))) fun found_300 => (k_seq (k_ifP (fun η hl h => (u_qOrP (u_qNotP (u_qTruB (u_op1 (bP (e_var (x := found_300) h 6 rfl) (l_isTy rfl))))) (u_qOrP (u_qB (u_op2 (bP (u_call (a_consP (e_var (x := found_300) h 6 rfl) (a_nil rfl))) (bP (e_lit (x := (2 : Int)) rfl) (l_ne (x := 2) (y := (2 : Int))))))) (u_qOrP (u_qNotP (u_qTruB (u_op1 (bP (u_op2 (bP (e_var (x := found_300) h 6 rfl) (bP (e_lit (x := (0 : Int)) rfl) l_ix20))) (l_isTy rfl))))) (u_qB (u_op2 (bP (u_call (a_consP (u_op2 (bP (e_var (x := found_300) h 6 rfl) (bP (e_lit (x := (0 : Int)) rfl) l_ix20))) (a_nil (l_len (xs := found_300.1))))) (bP (e_var (x := count) h 3 rfl) (l_ne (x := (ilen found_300.1)) (y := count)))))))))) (k_retP fun η hl h => (e_lit (x := false) rfl)) (k_next (k_seq (k_asgE (r := (cmapE (fun (x_301 : Int) => (p_digits x_301 base count)) a)) (by decide) Sub.nil (fun η hl h => (compE hl h (i_seqP (e_var (x := a) h 0 rfl)) (fun x_301 => (t_name 9 (by decide))) (fun x_301 η hl h => (u_call (a_consP (e_var (x := x_301) h 9 rfl) (a_consP (e_var (x := base) h 2 rfl) (a_consP (e_var (x := count) h 3 rfl) (a_nil (s_digits x_301 base count))))))))) fun rows_302 => (k_seq (k_for (ri := (irange count)) (fun (s_303 : Unit) => [(0, Enc.enc a), (4, Enc.enc given_245), (6, Enc.enc found_300), (7, Enc.enc rows_302)]) (s0 := (() : Unit)) Sub.nil (fun η hl h => (i_range1P (e_var (x := count) h 3 rfl))) (Sub.of ⟨rfl, rfl, rfl, rfl, trivial⟩) (fun x_304 s_303 => (t_name 8 (by decide))) (fun x_304 s_303 => (k_ifE Sub.nil (fun η hl h => (u_qNot (u_qTruB (u_call (a_consE (u_op2 (bP (u_op2 (bP (e_var (x := found_300) h 6 rfl) (bP (e_lit (x := (0 : Int)) rfl) l_ix20))) (bP (e_var (x := x_304) h 8 rfl) (l_ix (xs := found_300.1) (x := x_304))))) fun v_306 => (a_consE (compE hl h (i_seqP (e_var (x := rows_302) h 7 rfl)) (fun x_305 => (t_name 10 (by decide))) (fun x_305 η hl h => (u_op2 (bP (u_op2 (bP (e_var (x := x_305) h 10 rfl) (bP (e_lit (x := (0 : Int)) rfl) l_ix20))) (bP (e_var (x := x_304) h 8 rfl) (l_ix (xs := x_305.1) (x := x_304))))))) fun v_307 => (a_nil (s__law_is_list v_306 v_307)))))))) (k_retP fun η hl h => (e_lit (x := false) rfl)) (k_next (k_end (Sub.of ⟨rfl, rfl, rfl, rfl, trivial⟩))))) fun s_308 => (k_retE Sub.nil fun η hl h => (u_and (u_call (a_consP (u_op2 (bP (e_var (x := found_300) h 6 rfl) (bP (e_lit (x := (1 : Int)) rfl) l_ix21))) (a_consE (compP hl h (i_seqP (e_var (x := rows_302) h 7 rfl)) (fun x_309 => (t_name 10 (by decide))) (fun x_309 η hl h => (u_op2 (bP (e_var (x := x_309) h 10 rfl) (bP (e_lit (x := (1 : Int)) rfl) l_ix21))))) fun v_310 => (a_nil (s__law_is_list found_300.2 v_310))))) (u_op2 (bP (e_var (x := given_245) h 4 rfl) (bP (e_var (x := a) h 0 rfl) (l_eq (x := given_245) (y := a)))))))))))))))))))))))))))))
noncomputable def p__law_refused (which : Int) (a : (List Int)) (bad : D) : Res Bool := (tRun (TF.bind (σ := Unit) (tTry (if (decide (which = (0 : Int))) then (onE (f_worst_partner [(Enc.enc a), bad, (Enc.enc (1 : Int))]) fun u_335 => (.nx ())) else (if (decide (which = (1 : Int))) then (onE (f_worst_partner [(Enc.enc a), (Enc.enc (0 : Int)), bad]) fun u_336 => (.nx ())) else (if (decide (which = (2 : Int))) then (onE (f_centre [(Enc.enc a), bad]) fun u_337 => (.nx ())) else (if (decide (which = (3 : Int))) then (onE (f_residues [(Enc.enc a), bad]) fun u_338 => (.nx ())) else (if (decide (which = (4 : Int))) then (onE (f_divide [(Enc.enc a), (Enc.enc (1 : Int)), bad]) fun u_339 => (.nx ())) else (if (decide (which = (5 : Int))) then (onE (f_split [(Enc.enc a), bad, (Enc.enc (1 : Int))]) fun u_340 => (.nx ())) else (if (decide (which = (6 : Int))) then (onE (f_split [(Enc.enc a), (Enc.enc (3 : Int)), bad]) fun u_341 => (.nx ())) else (if (decide (which = (7 : Int))) then (onE (f_evaluate [bad, (Enc.enc a)]) fun u_342 => (.nx ())) else (onE (pick2 (which - (8 : Int)) (f_norm [bad]) (f_norm_one [bad])) fun u_343 => (.nx ())))))))))) .purse fun er_325 => (onE (isEr er_325 .range) TF.rt)) fun s_344 => (.rt false)))
theorem s__law_refused (which : Int) (a : (List Int)) (bad : D) : Sm Enc.enc (f__law_refused [Enc.enc which, Enc.enc a, Enc.enc bad]) (p__law_refused which a bad) := by
  unfold f__law_refused b__law_refused
  exact fn_sim rfl (by decide) (k_seq (k_join (Lm := fun (s_344 : Unit) => []) (tryA_sim (Lx := []) (by decide) Sub.nil rfl (fun _ => rfl) (fun _ => rfl) (k_ifP (fun η hl h => (u_qB (u_op2 (bP (e_var (x := which) h 0 rfl) (bP (e_lit (x := (0 : Int)) rfl) (l_eq (x := which) (y := (0 : Int)))))))) (k_exprE Sub.nil (fun η hl h => (u_call (a_consP (e_var (x := a) h 1 rfl) (a_consP (e_var (x := bad) h 2 rfl) (a_consP (e_lit (x := (1 : Int)) rfl) (a_nil l_D)))))) fun u_335 => (k_end Sub.nil)) (k_ifP (fun η hl h => (u_qB (u_op2 (bP (e_var (x := which) h 0 rfl) (bP (e_lit (x := (1 : Int)) rfl) (l_eq (x := which) (y := (1 : Int)))))))) (k_exprE Sub.nil (fun η hl h => (u_call (a_consP (e_var (x := a) h 1 rfl) (a_consP (e_lit (x := (0 : Int)) rfl) (a_consP (e_var (x := bad) h 2 rfl) (a_nil l_D)))))) fun u_336 => (k_end Sub.nil)) (k_ifP (fun η hl h => (u_qB (u_op2 (bP (e_var (x := which) h 0 rfl) (bP (e_lit (x := (2 : Int)) rfl) (l_eq (x := which) (y := (2 : Int)))))))) (k_exprE Sub.nil (fun η hl h => (u_call (a_consP (e_var (x := a) h 1 rfl) (a_consP (e_var (x := bad) h 2 rfl) (a_nil l_D))))) fun u_337 => (k_end Sub.nil)) (k_ifP (fun η hl h => (u_qB (u_op2 (bP (e_var (x := which) h 0 rfl) (bP (e_lit (x := (3 : Int)) rfl) (l_eq (x := which) (y := (3 : Int)))))))) (k_exprE Sub.nil (fun η hl h => (u_call (a_consP (e_var (x := a) h 1 rfl) (a_consP (e_var (x := bad) h 2 rfl) (a_nil l_D))))) fun u_338 => (k_end Sub.nil)) (k_ifP (fun η hl h => (u_qB (u_op2 (bP (e_var (x := which) h 0 rfl) (bP (e_lit (x := (4 : Int)) rfl) (l_eq (x := which) (y := (4 : Int)))))))) (k_exprE Sub.nil (fun η hl h => (u_call (a_consP (e_var (x := a) h 1 rfl) (a_consP (e_lit (x := (1 : Int)) rfl) (a_consP (e_var (x := bad) h 2 rfl) (a_nil l_D)))))) fun u_339 => (k_end Sub.nil)) (k_ifP (fun η hl h => (u_qB (u_op2 (bP (e_var (x := which) h 0 rfl) (bP (e_lit (x := (5 : Int)) rfl) (l_eq (x := which) (y := (5 : Int)))))))) (k_exprE Sub.nil (fun η hl h => (u_call (a_consP (e_var (x := a) h 1 rfl) (a_consP (e_var (x := bad) h 2 rfl) (a_consP (e_lit (x := (1 : Int)) rfl) (a_nil l_D)))))) fun u_340 => (k_end Sub.nil)) (k_ifP (fun η hl h => (u_qB (u_op2 (bP (e_var (x := which) h 0 rfl) (bP (e_lit (x := (6 : Int)) rfl) (l_eq (x := which) (y := (6 : Int)))))))) (k_exprE Sub.nil (fun η hl h => (u_call (a_consP (e_var (x := a) h 1 rfl) (a_consP (e_lit (x := (3 : Int)) rfl) (a_consP (e_var (x := bad) h 2 rfl) (a_nil l_D)))))) fun u_341 => (k_end Sub.nil)) (k_ifP (fun η hl h => (u_qB (u_op2 (bP (e_var (x := which) h 0 rfl) (bP (e_lit (x := (7 : Int)) rfl) (l_eq (x := which) (y := (7 : Int)))))))) (k_exprE Sub.nil (fun η hl h => (u_call (a_consP (e_var (x := bad) h 2 rfl) (a_consP (e_var (x := a) h 1 rfl) (a_nil l_D))))) fun u_342 => (k_end Sub.nil)) (k_exprE Sub.nil (fun η hl h => (u_pick (u_op2 (bP (e_var (x := which) h 0 rfl) (bP (e_lit (x := (8 : Int)) rfl) (l_sub (x := which) (y := (8 : Int)))))) (a_consP (e_var (x := bad) h 2 rfl) (a_nil l_D)) (a_consP (e_var (x := bad) h 2 rfl) (a_nil l_D)))) fun u_343 => (k_end Sub.nil)))))))))) (fun er_325 => (k_retE Sub.nil fun η hl h => l_isEr))) fun s_344 => (k_retP fun η hl h => (e_lit (x := false) rfl))))
noncomputable def p_evaluate_v1 (parts : (List Int)) (s : Unit) : Res D := (tRun (if (decide ((ilen parts) = (0 : Int))) then (.ex .range) else (onE (Res.bind (fLen [(Enc.enc s : D)]) fun v_374 => (f_zero [v_374])) fun result_375 => (TF.bind (tFor (parts).reverse (result_375 : (D)) (fun (x_377 : Int) (s_376 : (D)) => (onE (Res.bind (f_multiply [s_376, (Enc.enc s)]) fun v_378 => (f_add [v_378, (Enc.enc x_377)])) fun result_379 => (.nx result_379)))) fun s_380 => (.rt s_380)))))
theorem s_evaluate_v1 (parts : (List Int)) (s : Unit) : Sm Enc.enc (f_evaluate [Enc.enc parts, Enc.enc s]) (p_evaluate_v1 parts s) := by
  unfold f_evaluate b_evaluate w_evaluate_0
  exact fn_sim rfl (by decide) (k_seq (k_ifP (fun η hl h => (u_qB (u_op2 (bP (u_call (a_consP (e_var (x := parts) h 0 rfl) (a_nil (l_len (xs := parts))))) (bP (e_lit (x := (0 : Int)) rfl) (l_eq (x := (ilen parts)) (y := (0 : Int)))))))) (k_raise .range Sub.nil) (k_next (k_seq (k_asgE (r := (Res.bind (fLen [(Enc.enc s : D)]) fun v_374 => (f_zero [v_374]))) (by decide) Sub.nil (fun η hl h => (u_call (a_consE (u_call (a_consP (l_coe (e_var (x := s) h 1 rfl)) (a_nil l_D))) fun v_374 => (a_nil l_D)))) fun result_375 => (k_seq (k_forP (xs := (parts).reverse) (fun (s_376 : (D)) => [(1, Enc.enc s), (2, Enc.enc s_376)]) (s0 := (result_375 : (D))) (fun η hl h => (i_revP (e_var (x := parts) h 0 rfl))) (Sub.of ⟨rfl, rfl, trivial⟩) (fun x_377 s_376 => (t_name 3 (by decide))) (fun x_377 s_376 => (k_asgE (r := (Res.bind (f_multiply [s_376, (Enc.enc s)]) fun v_378 => (f_add [v_378, (Enc.enc x_377)]))) (by decide) Sub.nil (fun η hl h => (u_call (a_consE (u_call (a_consP (e_var (x := s_376) h 2 rfl) (a_consP (e_var (x := s) h 1 rfl) (a_nil l_D)))) fun v_378 => (a_consP (e_var (x := x_377) h 3 rfl) (a_nil l_D))))) fun result_379 => (k_end (Sub.of ⟨rfl, rfl, trivial⟩)))) fun s_380 => (k_retP fun η hl h => (e_var (x := s_380) h 2 rfl)))))))))
noncomputable def p__law_refused_v1 (which : Int) (a : Unit) (bad : (List Int)) : Res Bool := (tRun (TF.bind (σ := Unit) (tTry (if (decide (which = (0 : Int))) then (onE (f_worst_partner [(Enc.enc a), (Enc.enc bad), (Enc.enc (1 : Int))]) fun u_387 => (.nx ())) else (if (decide (which = (1 : Int))) then (onE (f_worst_partner [(Enc.enc a), (Enc.enc (0 : Int)), (Enc.enc bad)]) fun u_392 => (.nx ())) else (if (decide (which = (2 : Int))) then (onE (f_centre [(Enc.enc a), (Enc.enc bad)]) fun u_394 => (.nx ())) else (if (decide (which = (3 : Int))) then (onE (f_residues [(Enc.enc a), (Enc.enc bad)]) fun u_396 => (.nx ())) else (if (decide (which = (4 : Int))) then (onE (f_divide [(Enc.enc a), (Enc.enc (1 : Int)), (Enc.enc bad)]) fun u_398 => (.nx ())) else (if (decide (which = (5 : Int))) then (onE (f_split [(Enc.enc a), (Enc.enc bad), (Enc.enc (1 : Int))]) fun u_400 => (.nx ())) else (if (decide (which = (6 : Int))) then (onE (f_split [(Enc.enc a), (Enc.enc (3 : Int)), (Enc.enc bad)]) fun u_402 => (.nx ())) else (if (decide (which = (7 : Int))) then (onE (p_evaluate_v1 bad a) fun u_403 => (.nx ())) else (onE (pick2 (which - (8 : Int)) (p_norm bad) (p_norm_one bad)) fun u_404 => (.nx ())))))))))) .purse fun er_353 => (onE (isEr er_353 .range) TF.rt)) fun s_405 => (.rt false)))
theorem s__law_refused_v1 (which : Int) (a : Unit) (bad : (List Int)) : Sm Enc.enc (f__law_refused [Enc.enc which, Enc.enc a, Enc.enc bad]) (p__law_refused_v1 which a bad) := by
  unfold f__law_refused b__law_refused
  exact fn_sim rfl (by decide) (k_seq (k_join (Lm := fun (s_405 : Unit) => []) (tryA_sim (Lx := []) (by decide) Sub.nil rfl (fun _ => rfl) (fun _ => rfl) (k_ifP (fun η hl h => (u_qB (u_op2 (bP (e_var (x := which) h 0 rfl) (bP (e_lit (x := (0 : Int)) rfl) (l_eq (x := which) (y := (0 : Int)))))))) (k_exprE Sub.nil (fun η hl h => (u_call (a_consP (e_var (x := a) h 1 rfl) (a_consP (e_var (x := bad) h 2 rfl) (a_consP (e_lit (x := (1 : Int)) rfl) (a_nil l_D)))))) fun u_387 => (k_end Sub.nil)) (k_ifP (fun η hl h => (u_qB (u_op2 (bP (e_var (x := which) h 0 rfl) (bP (e_lit (x := (1 : Int)) rfl) (l_eq (x := which) (y := (1 : Int)))))))) (k_exprE Sub.nil (fun η hl h => (u_call (a_consP (e_var (x := a) h 1 rfl) (a_consP (e_lit (x := (0 : Int)) rfl) (a_consP (e_var (x := bad) h 2 rfl) (a_nil l_D)))))) fun u_392 => (k_end Sub.nil)) (k_ifP (fun η hl h => (u_qB (u_op2 (bP (e_var (x := which) h 0 rfl) (bP (e_lit (x := (2 : Int)) rfl) (l_eq (x := which) (y := (2 : Int)))))))) (k_exprE Sub.nil (fun η hl h => (u_call (a_consP (e_var (x := a) h 1 rfl) (a_consP (e_var (x := bad) h 2 rfl) (a_nil l_D))))) fun u_394 => (k_end Sub.nil)) (k_ifP (fun η hl h => (u_qB (u_op2 (bP (e_var (x := which) h 0 rfl) (bP (e_lit (x := (3 : Int)) rfl) (l_eq (x := which) (y := (3 : Int)))))))) (k_exprE Sub.nil (fun η hl h => (u_call (a_consP (e_var (x := a) h 1 rfl) (a_consP (e_var (x := bad) h 2 rfl) (a_nil l_D))))) fun u_396 => (k_end Sub.nil)) (k_ifP (fun η hl h => (u_qB (u_op2 (bP (e_var (x := which) h 0 rfl) (bP (e_lit (x := (4 : Int)) rfl) (l_eq (x := which) (y := (4 : Int)))))))) (k_exprE Sub.nil (fun η hl h => (u_call (a_consP (e_var (x := a) h 1 rfl) (a_consP (e_lit (x := (1 : Int)) rfl) (a_consP (e_var (x := bad) h 2 rfl) (a_nil l_D)))))) fun u_398 => (k_end Sub.nil)) (k_ifP (fun η hl h => (u_qB (u_op2 (bP (e_var (x := which) h 0 rfl) (bP (e_lit (x := (5 : Int)) rfl) (l_eq (x := which) (y := (5 : Int)))))))) (k_exprE Sub.nil (fun η hl h => (u_call (a_consP (e_var (x := a) h 1 rfl) (a_consP (e_var (x := bad) h 2 rfl) (a_consP (e_lit (x := (1 : Int)) rfl) (a_nil l_D)))))) fun u_400 => (k_end Sub.nil)) (k_ifP (fun η hl h => (u_qB (u_op2 (bP (e_var (x := which) h 0 rfl) (bP (e_lit (x := (6 : Int)) rfl) (l_eq (x := which) (y := (6 : Int)))))))) (k_exprE Sub.nil (fun η hl h => (u_call (a_consP (e_var (x := a) h 1 rfl) (a_consP (e_lit (x := (3 : Int)) rfl) (a_consP (e_var (x := bad) h 2 rfl) (a_nil l_D)))))) fun u_402 => (k_end Sub.nil)) (k_ifP (fun η hl h => (u_qB (u_op2 (bP (e_var (x := which) h 0 rfl) (bP (e_lit (x := (7 : Int)) rfl) (l_eq (x := which) (y := (7 : Int)))))))) (k_exprE Sub.nil (fun η hl h => (u_call (a_consP (e_var (x := bad) h 2 rfl) (a_consP (e_var (x := a) h 1 rfl) (a_nil (s_evaluate_v1 bad a)))))) fun u_403 => (k_end Sub.nil)) (k_exprE Sub.nil (fun η hl h => (u_pick (u_op2 (bP (e_var (x := which) h 0 rfl) (bP (e_lit (x := (8 : Int)) rfl) (l_sub (x := which) (y := (8 : Int)))))) (a_consP (e_var (x := bad) h 2 rfl) (a_nil (s_norm bad))) (a_consP (e_var (x := bad) h 2 rfl) (a_nil (s_norm_one bad))))) fun u_404 => (k_end Sub.nil)))))))))) (fun er_353 => (k_retE Sub.nil fun η hl h => l_isEr))) fun s_405 => (k_retP fun η hl h => (e_lit (x := false) rfl))))
noncomputable def p__law_refused_v2 (which : Int) (a : (List Int)) (bad : Int) : Res Bool := (tRun (TF.bind (σ := Unit) (tTry (if (decide (which = (0 : Int))) then (onE (p_worst_partner a bad (1 : Int)) fun u_420 => (.nx ())) else (if (decide (which = (1 : Int))) then (onE (p_worst_partner a (0 : Int) bad) fun u_421 => (.nx ())) else (if (decide (which = (2 : Int))) then (onE (p_centre a bad) fun u_422 => (.nx ())) else (if (decide (which = (3 : Int))) then (onE (p_residues a bad) fun u_423 => (.nx ())) else (if (decide (which = (4 : Int))) then (onE (p_divide a (1 : Int) bad) fun u_424 => (.nx ())) else (if (decide (which = (5 : Int))) then (onE (p_split a bad (1 : Int)) fun u_425 => (.nx ())) else (if (decide (which = (6 : Int))) then (onE (p_split a (3 : Int) bad) fun u_426 => (.nx ())) else (if (decide (which = (7 : Int))) then (onE (f_evaluate [(Enc.enc bad), (Enc.enc a)]) fun u_429 => (.nx ())) else (onE (pick2 (which - (8 : Int)) (f_norm [(Enc.enc bad)]) (f_norm_one [(Enc.enc bad)])) fun u_432 => (.nx ())))))))))) .purse fun er_406 => (onE (isEr er_406 .range) TF.rt)) fun s_433 => (.rt false)))
theorem s__law_refused_v2 (which : Int) (a : (List Int)) (bad : Int) : Sm Enc.enc (f__law_refused [Enc.enc which, Enc.enc a, Enc.enc bad]) (p__law_refused_v2 which a bad) := by
  unfold f__law_refused b__law_refused
  exact fn_sim rfl (by decide) (k_seq (k_join (Lm := fun (s_433 : Unit) => []) (tryA_sim (Lx := []) (by decide) Sub.nil rfl (fun _ => rfl) (fun _ => rfl) (k_ifP (fun η hl h => (u_qB (u_op2 (bP (e_var (x := which) h 0 rfl) (bP (e_lit (x := (0 : Int)) rfl) (l_eq (x := which) (y := (0 : Int)))))))) (k_exprE Sub.nil (fun η hl h => (u_call (a_consP (e_var (x := a) h 1 rfl) (a_consP (e_var (x := bad) h 2 rfl) (a_consP (e_lit (x := (1 : Int)) rfl) (a_nil (s_worst_partner a bad (1 : Int)))))))) fun u_420 => (k_end Sub.nil)) (k_ifP (fun η hl h => (u_qB (u_op2 (bP (e_var (x := which) h 0 rfl) (bP (e_lit (x := (1 : Int)) rfl) (l_eq (x := which) (y := (1 : Int)))))))) (k_exprE Sub.nil (fun η hl h => (u_call (a_consP (e_var (x := a) h 1 rfl) (a_consP (e_lit (x := (0 : Int)) rfl) (a_consP (e_var (x := bad) h 2 rfl) (a_nil (s_worst_partner a (0 : Int) bad))))))) fun u_421 => (k_end Sub.nil)) (k_ifP (fun η hl h => (u_qB (u_op2 (bP (e_var (x := which) h 0 rfl) (bP (e_lit (x := (2 : Int)) rfl) (l_eq (x := which) (y := (2 : Int)))))))) (k_exprE Sub.nil (fun η hl h => (u_call (a_consP (e_var (x := a) h 1 rfl) (a_consP (e_var (x := bad) h 2 rfl) (a_nil (s_centre a bad)))))) fun u_422 => (k_end Sub.nil)) (k_ifP (fun η hl h => (u_qB (u_op2 (bP (e_var (x := which) h 0 rfl) (bP (e_lit (x := (3 : Int)) rfl) (l_eq (x := which) (y := (3 : Int)))))))) (k_exprE Sub.nil (fun η hl h => (u_call (a_consP (e_var (x := a) h 1 rfl) (a_consP (e_var (x := bad) h 2 rfl) (a_nil (s_residues a bad)))))) fun u_423 => (k_end Sub.nil)) (k_ifP (fun η hl h => (u_qB (u_op2 (bP (e_var (x := which) h 0 rfl) (bP (e_lit (x := (4 : Int)) rfl) (l_eq (x := which) (y := (4 : Int)))))))) (k_exprE Sub.nil (fun η hl h => (u_call (a_consP (e_var (x := a) h 1 rfl) (a_consP (e_lit (x := (1 : Int)) rfl) (a_consP (e_var (x := bad) h 2 rfl) (a_nil (s_divide a (1 : Int) bad))))))) fun u_424 => (k_end Sub.nil)) (k_ifP (fun η hl h => (u_qB (u_op2 (bP (e_var (x := which) h 0 rfl) (bP (e_lit (x := (5 : Int)) rfl) (l_eq (x := which) (y := (5 : Int)))))))) (k_exprE Sub.nil (fun η hl h => (u_call (a_consP (e_var (x := a) h 1 rfl) (a_consP (e_var (x := bad) h 2 rfl) (a_consP (e_lit (x := (1 : Int)) rfl) (a_nil (s_split a bad (1 : Int)))))))) fun u_425 => (k_end Sub.nil)) (k_ifP (fun η hl h => (u_qB (u_op2 (bP (e_var (x := which) h 0 rfl) (bP (e_lit (x := (6 : Int)) rfl) (l_eq (x := which) (y := (6 : Int)))))))) (k_exprE Sub.nil (fun η hl h => (u_call (a_consP (e_var (x := a) h 1 rfl) (a_consP (e_lit (x := (3 : Int)) rfl) (a_consP (e_var (x := bad) h 2 rfl) (a_nil (s_split a (3 : Int) bad))))))) fun u_426 => (k_end Sub.nil)) (k_ifP (fun η hl h => (u_qB (u_op2 (bP (e_var (x := which) h 0 rfl) (bP (e_lit (x := (7 : Int)) rfl) (l_eq (x := which) (y := (7 : Int)))))))) (k_exprE Sub.nil (fun η hl h => (u_call (a_consP (e_var (x := bad) h 2 rfl) (a_consP (e_var (x := a) h 1 rfl) (a_nil l_D))))) fun u_429 => (k_end Sub.nil)) (k_exprE Sub.nil (fun η hl h => (u_pick (u_op2 (bP (e_var (x := which) h 0 rfl) (bP (e_lit (x := (8 : Int)) rfl) (l_sub (x := which) (y := (8 : Int)))))) (a_consP (e_var (x := bad) h 2 rfl) (a_nil l_D)) (a_consP (e_var (x := bad) h 2 rfl) (a_nil l_D)))) fun u_432 => (k_end Sub.nil)))))))))) (fun er_406 => (k_retE Sub.nil fun η hl h => l_isEr))) fun s_433 => (k_retP fun η hl h => (e_lit (x := false) rfl))))
noncomputable def p__law_odd_sizes (a : (List Int)) : Res Bool := (tRun (onE (Res.bind (Res.bind (lrep ([(0 : Int)] : List Int) ((1 : Int) + (b2i (decide ((ilen a) = (1 : Int)))))) fun v_348 => (lcat a v_348)) fun v_349 => (Res.bind (lrep ([(1 : Int)] : List Int) (1025 : Int)) fun v_350 => (Res.ok ([([] : List Int), v_349, v_350] : List (List Int))))) fun xs_445 => TF.bind (tFor xs_445 (() : Unit) (fun (x_352 : (List Int)) (s_351 : Unit) => (onE (Res.bind (p__law_refused_v1 (8 : Int) () x_352) fun v_434 => (Res.bind (p__law_refused_v1 (9 : Int) () x_352) fun v_435 => (Res.bind (p__law_refused_v2 (0 : Int) x_352 (0 : Int)) fun v_436 => (Res.bind (p__law_refused_v2 (2 : Int) x_352 (5 : Int)) fun v_437 => (Res.bind (p__law_refused_v2 (3 : Int) x_352 (5 : Int)) fun v_438 => (Res.ok ([v_434, v_435, v_436, v_437, v_438] : List Bool))))))) fun told_439 => (onE (Res.bind (Res.bind (Res.bind (p__law_refused_v2 (4 : Int) x_352 (5 : Int)) fun v_440 => (Res.bind (p__law_refused_v2 (5 : Int) x_352 (5 : Int)) fun v_441 => (Res.ok ([v_440, v_441] : List Bool)))) fun v_442 => (lcat told_439 v_442)) fun v_443 => (Res.ok (decide (false ∈ v_443)))) fun c => if c then (.rt false) else (.nx ()))))) fun s_444 => (.rt true)))
theorem s__law_odd_sizes (a : (List Int)) : Sm Enc.enc (f__law_odd_sizes [Enc.enc a]) (p__law_odd_sizes a) := by
  unfold f__law_odd_sizes b__law_odd_sizes w__law_odd_sizes_0
  exact fn_sim rfl (by decide) (k_seq (k_for (ri := (Res.bind (Res.bind (lrep ([(0 : Int)] : List Int) ((1 : Int) + (b2i (decide ((ilen a) = (1 : Int)))))) fun v_348 => (lcat a v_348)) fun v_349 => (Res.bind (lrep ([(1 : Int)] : List Int) (1025 : Int)) fun v_350 => (Res.ok ([([] : List Int), v_349, v_350] : List (List Int)))))) (fun (s_351 : Unit) => []) (s0 := (() : Unit)) Sub.nil (fun η hl h => (i_seqE (u_lst (a_consP (u_lst (a_nil (l_lst (xs := ([] : List Int)) rfl rfl))) (a_consE (u_op2 (bP (e_var (x := a) h 0 rfl) (bE (u_op2 (bP (u_lst (a_consP (e_lit (x := (0 : Int)) rfl) (a_nil (l_lst (xs := ([(0 : Int)] : List Int)) rfl rfl)))) (bP (u_op2 (bP (e_lit (x := (1 : Int)) rfl) (bP (u_call (a_consP (u_op2 (bP (u_call (a_consP (e_var (x := a) h 0 rfl) (a_nil (l_len (xs := a))))) (bP (e_lit (x := (1 : Int)) rfl) (l_eq (x := (ilen a)) (y := (1 : Int)))))) (a_nil (l_intB (u := (decide ((ilen a) = (1 : Int)))))))) (l_add (x := (1 : Int)) (y := (b2i (decide ((ilen a) = (1 : Int))))))))) (l_rep (xs := ([(0 : Int)] : List Int)) (k := ((1 : Int) + (b2i (decide ((ilen a) = (1 : Int)))))))))) fun v_348 => (l_cat (xs := a) (ys := v_348))))) fun v_349 => (a_consE (u_op2 (bP (u_lst (a_consP (e_lit (x := (1 : Int)) rfl) (a_nil (l_lst (xs := ([(1 : Int)] : List Int)) rfl rfl)))) (bP (e_lit (x := (1025 : Int)) rfl) (l_rep (xs := ([(1 : Int)] : List Int)) (k := (1025 : Int)))))) fun v_350 => (a_nil (l_lst (xs := ([([] : List Int), v_349, v_350] : List (List Int))) rfl rfl)))))))) Sub.nil (fun x_352 s_351 => (t_name 1 (by decide))) (fun x_352 s_351 => (k_seq (k_asgE (r := (Res.bind (p__law_refused_v1 (8 : Int) () x_352) fun v_434 => (Res.bind (p__law_refused_v1 (9 : Int) () x_352) fun v_435 => (Res.bind (p__law_refused_v2 (0 : Int) x_352 (0 : Int)) fun v_436 => (Res.bind (p__law_refused_v2 (2 : Int) x_352 (5 : Int)) fun v_437 => (Res.bind (p__law_refused_v2 (3 : Int) x_352 (5 : Int)) fun v_438 => (Res.ok ([v_434, v_435, v_436, v_437, v_438] : List Bool)))))))) (by decide) Sub.nil (fun η hl h => (u_lst (a_consE (u_call (a_consP (e_lit (x := (8 : Int)) rfl) (a_consP (e_lit (x := ()) rfl) (a_consP (e_var (x := x_352) h 1 rfl) (a_nil (s__law_refused_v1 (8 : Int) () x_352)))))) fun v_434 => (a_consE (u_call (a_consP (e_lit (x := (9 : Int)) rfl) (a_consP (e_lit (x := ()) rfl) (a_consP (e_var (x := x_352) h 1 rfl) (a_nil (s__law_refused_v1 (9 : Int) () x_352)))))) fun v_435 => (a_consE (u_call (a_consP (e_lit (x := (0 : Int)) rfl) (a_consP (e_var (x := x_352) h 1 rfl) (a_consP (e_lit (x := (0 : Int)) rfl) (a_nil (s__law_refused_v2 (0 : Int) x_352 (0 : Int))))))) fun v_436 => (a_consE (u_call (a_consP (e_lit (x := (2 : Int)) rfl) (a_consP (e_var (x := x_352) h 1 rfl) (a_consP (e_lit (x := (5 : Int)) rfl) (a_nil (s__law_refused_v2 (2 : Int) x_352 (5 : Int))))))) fun v_437 => (a_consE (u_call (a_consP (e_lit (x := (3 : Int)) rfl) (a_consP (e_var (x := x_352) h 1 rfl) (a_consP (e_lit (x := (5 : Int)) rfl) (a_nil (s__law_refused_v2 (3 : Int) x_352 (5 : Int))))))) fun v_438 => (a_nil (l_lst (xs := ([v_434, v_435, v_436, v_437, v_438] : List Bool)) rfl rfl))))))))) fun told_439 => (k_ifE Sub.nil (fun η hl h => (u_qB (u_op2 (bP (e_lit (x := false) rfl) (bE (u_op2 (bP (e_var (x := told_439) h 2 rfl) (bE (u_lst (a_consE (u_call (a_consP (e_lit (x := (4 : Int)) rfl) (a_consP (e_var (x := x_352) h 1 rfl) (a_consP (e_lit (x := (5 : Int)) rfl) (a_nil (s__law_refused_v2 (4 : Int) x_352 (5 : Int))))))) fun v_440 => (a_consE (u_call (a_consP (e_lit (x := (5 : Int)) rfl) (a_consP (e_var (x := x_352) h 1 rfl) (a_consP (e_lit (x := (5 : Int)) rfl) (a_nil (s__law_refused_v2 (5 : Int) x_352 (5 : Int))))))) fun v_441 => (a_nil (l_lst (xs := ([v_440, v_441] : List Bool)) rfl rfl))))) fun v_442 => (l_cat (xs := told_439) (ys := v_442))))) fun v_443 => (l_in (x := false) (xs := v_443))))))) (k_retP fun η hl h => (e_lit (x := false) rfl)) (k_next (k_end Sub.nil)))))) fun s_444 => (k_retP fun η hl h => (e_lit (x := true) rfl))))
noncomputable def p__law_bounds (a : (List Int)) (cell : Int) : Res Bool := (tRun (onE (Res.ok (ilen a)) fun size_316 => (onE (Res.bind (Res.bind (Res.bind (Res.bind (lcat a a) fun v_317 => (Res.ok ([v_317] : List (List Int)))) fun v_318 => (Res.ok ([v_318, ([] : List (List Int))] : List (List (List Int))))) fun x => .ok (Enc.enc x : D)) fun v_319 => (Res.ok ([(Enc.enc ([(-(1 : Int)), size_316, (size_316 + cell)] : List Int) : D), (Enc.enc ([(-(1 : Int)), ((-(1 : Int)) - cell)] : List Int) : D), (Enc.enc ([(0 : Int), (-cell)] : List Int) : D), (Enc.enc ([(0 : Int), (-(1 : Int))] : List Int) : D), (Enc.enc ([(0 : Int), ((-(1 : Int)) - cell)] : List Int) : D), (Enc.enc ([(2 : Int), (-cell)] : List Int) : D), (Enc.enc ([(-(1 : Int)), (4097 : Int)] : List Int) : D), v_319] : List D))) fun rows_320 => (onE (irange (8 : Int)) fun xs_446 => TF.bind (tFor xs_446 (() : Unit) (fun (x_322 : Int) (s_321 : Unit) => (onE (Res.bind (ix rows_320 x_322) itemsD) fun xs_346 => TF.bind (tFor xs_346 (() : Unit) (fun (x_324 : D) (s_323 : Unit) => (onE (Res.bind (p__law_refused x_322 a x_324) fun c => .ok (!c)) fun c => if c then (.rt false) else (.nx ())))) fun s_345 => (.nx ())))) fun s_347 => (onE (p__law_odd_sizes a) TF.rt)))))
theorem s__law_bounds (a : (List Int)) (cell : Int) : Sm Enc.enc (f__law_bounds [Enc.enc a, Enc.enc cell]) (p__law_bounds a cell) := by
  unfold f__law_bounds b__law_bounds w__law_bounds_1 w__law_bounds_0
  exact fn_sim rfl (by decide) (k_seq (k_asgE (r := (Res.ok (ilen a))) (by decide) Sub.nil (fun η hl h => (u_call (a_consP (e_var (x := a) h 0 rfl) (a_nil (l_len (xs := a)))))) fun size_316 => (k_seq (k_asgE (r := (Res.bind (Res.bind (Res.bind (Res.bind (lcat a a) fun v_317 => (Res.ok ([v_317] : List (List Int)))) fun v_318 => (Res.ok ([v_318, ([] : List (List Int))] : List (List (List Int))))) fun x => .ok (Enc.enc x : D)) fun v_319 => (Res.ok ([(Enc.enc ([(-(1 : Int)), size_316, (size_316 + cell)] : List Int) : D), (Enc.enc ([(-(1 : Int)), ((-(1 : Int)) - cell)] : List Int) : D), (Enc.enc ([(0 : Int), (-cell)] : List Int) : D), (Enc.enc ([(0 : Int), (-(1 : Int))] : List Int) : D), (Enc.enc ([(0 : Int), ((-(1 : Int)) - cell)] : List Int) : D), (Enc.enc ([(2 : Int), (-cell)] : List Int) : D), (Enc.enc ([(-(1 : Int)), (4097 : Int)] : List Int) : D), v_319] : List D)))) (by decide) Sub.nil (fun η hl h => (u_lst (a_consP (l_coe (u_lst (a_consP (u_op1 (bP (e_lit (x := (1 : Int)) rfl) (l_neg (x := (1 : Int))))) (a_consP (e_var (x := size_316) h 2 rfl) (a_consP (u_op2 (bP (e_var (x := size_316) h 2 rfl) (bP (e_var (x := cell) h 1 rfl) (l_add (x := size_316) (y := cell))))) (a_nil (l_lst (xs := ([(-(1 : Int)), size_316, (size_316 + cell)] : List Int)) rfl rfl))))))) (a_consP (l_coe (u_lst (a_consP (u_op1 (bP (e_lit (x := (1 : Int)) rfl) (l_neg (x := (1 : Int))))) (a_consP (u_op2 (bP (u_op1 (bP (e_lit (x := (1 : Int)) rfl) (l_neg (x := (1 : Int))))) (bP (e_var (x := cell) h 1 rfl) (l_sub (x := (-(1 : Int))) (y := cell))))) (a_nil (l_lst (xs := ([(-(1 : Int)), ((-(1 : Int)) - cell)] : List Int)) rfl rfl)))))) (a_consP (l_coe (u_lst (a_consP (e_lit (x := (0 : Int)) rfl) (a_consP (u_op1 (bP (e_var (x := cell) h 1 rfl) (l_neg (x := cell)))) (a_nil (l_lst (xs := ([(0 : Int), (-cell)] : List Int)) rfl rfl)))))) (a_consP (l_coe (u_lst (a_consP (e_lit (x := (0 : Int)) rfl) (a_consP (u_op1 (bP (e_lit (x := (1 : Int)) rfl) (l_neg (x := (1 : Int))))) (a_nil (l_lst (xs := ([(0 : Int), (-(1 : Int))] : List Int)) rfl rfl)))))) (a_consP (l_coe (u_lst (a_consP (e_lit (x := (0 : Int)) rfl) (a_consP (u_op2 (bP (u_op1 (bP (e_lit (x := (1 : Int)) rfl) (l_neg (x := (1 : Int))))) (bP (e_var (x := cell) h 1 rfl) (l_sub (x := (-(1 : Int))) (y := cell))))) (a_nil (l_lst (xs := ([(0 : Int), ((-(1 : Int)) - cell)] : List Int)) rfl rfl)))))) (a_consP (l_coe (u_lst (a_consP (e_lit (x := (2 : Int)) rfl) (a_consP (u_op1 (bP (e_var (x := cell) h 1 rfl) (l_neg (x := cell)))) (a_nil (l_lst (xs := ([(2 : Int), (-cell)] : List Int)) rfl rfl)))))) (a_consP (l_coe (u_lst (a_consP (u_op1 (bP (e_lit (x := (1 : Int)) rfl) (l_neg (x := (1 : Int))))) (a_consP (e_lit (x := (4097 : Int)) rfl) (a_nil (l_lst (xs := ([(-(1 : Int)), (4097 : Int)] : List Int)) rfl rfl)))))) (a_consE (l_coeE (u_lst (a_consE (u_lst (a_consE (u_op2 (bP (e_var (x := a) h 0 rfl) (bP (e_var (x := a) h 0 rfl) (l_cat (xs := a) (ys := a))))) fun v_317 => (a_nil (l_lst (xs := ([v_317] : List (List Int))) rfl rfl)))) fun v_318 => (a_consP (u_lst (a_nil (l_lst (xs := ([] : List (List Int))) rfl rfl))) (a_nil (l_lst (xs := ([v_318, ([] : List (List Int))] : List (List (List Int)))) rfl rfl)))))) fun v_319 => (a_nil (l_lst (xs := ([(Enc.enc ([(-(1 : Int)), size_316, (size_316 + cell)] : List Int) : D), (Enc.enc ([(-(1 : Int)), ((-(1 : Int)) - cell)] : List Int) : D), (Enc.enc ([(0 : Int), (-cell)] : List Int) : D), (Enc.enc ([(0 : Int), (-(1 : Int))] : List Int) : D), (Enc.enc ([(0 : Int), ((-(1 : Int)) - cell)] : List Int) : D), (Enc.enc ([(2 : Int), (-cell)] : List Int) : D), (Enc.enc ([(-(1 : Int)), (4097 : Int)] : List Int) : D), v_319] : List D)) rfl rfl)))))))))))) fun rows_320 => (k_seq (k_for (ri := (irange (8 : Int))) (fun (s_321 : Unit) => [(0, Enc.enc a), (3, Enc.enc rows_320)]) (s0 := (() : Unit)) Sub.nil (fun η hl h => (i_range1P (e_lit (x := (8 : Int)) rfl))) (Sub.of ⟨rfl, rfl, trivial⟩) (fun x_322 s_321 => (t_name 4 (by decide))) (fun x_322 s_321 => (k_for (ri := (Res.bind (ix rows_320 x_322) itemsD)) (fun (s_323 : Unit) => [(0, Enc.enc a), (3, Enc.enc rows_320), (4, Enc.enc x_322)]) (s0 := (() : Unit)) Sub.nil (fun η hl h => (i_seqD (r := (ix rows_320 x_322)) (u_op2 (bP (e_var (x := rows_320) h 3 rfl) (bP (e_var (x := x_322) h 4 rfl) (l_ix (xs := rows_320) (x := x_322))))))) (Sub.of ⟨rfl, rfl, rfl, trivial⟩) (fun x_324 s_323 => (t_name 5 (by decide))) (fun x_324 s_323 => (k_ifE Sub.nil (fun η hl h => (u_qNot (u_qTruB (u_call (a_consP (e_var (x := x_322) h 4 rfl) (a_consP (e_var (x := a) h 0 rfl) (a_consP (e_var (x := x_324) h 5 rfl) (a_nil (s__law_refused x_322 a x_324))))))))) (k_retP fun η hl h => (e_lit (x := false) rfl)) (k_next (k_end (Sub.of ⟨rfl, rfl, rfl, trivial⟩))))) fun s_345 => (k_end (Sub.of ⟨rfl, rfl, trivial⟩)))) fun s_347 => (k_retE Sub.nil fun η hl h => (u_call (a_consP (e_var (x := a) h 0 rfl) (a_nil (s__law_odd_sizes a)))))))))))
noncomputable def p_law (script : (List Int)) : Res Bool := (tRun (onE (Res.bind (p__law_cell script (0 : Int)) fun v_35 => (p__law_size v_35)) fun size_36 => (onE (Res.bind (Res.bind (ishl (1 : Int) (40 : Int)) fun v_37 => (Res.ok ([(3 : Int), v_37, (1 : Int)] : List Int))) fun v_41 => (Res.bind (Res.bind (Res.bind (Res.bind (p__law_cell script (0 : Int)) fun v_38 => (Res.ok (iabs v_38))) fun v_39 => (idiv v_39 (5 : Int))) fun v_40 => (imod v_40 (3 : Int))) fun v_42 => (ix v_41 v_42))) fun most_43 => (onE (Res.bind (p__law_cell script (1 : Int)) fun v_94 => (p__law_poly v_94 size_36 most_43)) fun a_95 => (onE (Res.bind (p__law_cell script (2 : Int)) fun v_96 => (p__law_poly v_96 size_36 most_43)) fun b_97 => (onE (p__law_cell script (3 : Int)) fun k_98 => (onE (Res.bind (p__law_sizes a_95 b_97 k_98) fun c => .ok (!c)) fun c => if c then (.rt false) else (onE (Res.bind (Res.bind (p__law_cell script (4 : Int)) fun v_177 => (Res.ok (iabs v_177))) fun v_178 => (imod v_178 size_36)) fun place_179 => (onE (Res.bind (Res.bind (Res.bind (Res.bind (Res.bind (p__law_cell script (4 : Int)) fun v_180 => (Res.ok (iabs v_180))) fun v_181 => (idiv v_181 size_36)) fun v_182 => (imod v_182 (10 : Int))) fun v_183 => (Res.bind (ishl (1 : Int) (70 : Int)) fun v_184 => (Res.ok ([v_183, v_184] : List Int)))) fun v_188 => (Res.bind (Res.bind (Res.bind (Res.bind (p__law_cell script (4 : Int)) fun v_185 => (Res.ok (iabs v_185))) fun v_186 => (idiv v_186 (160 : Int))) fun v_187 => (imod v_187 (2 : Int))) fun v_189 => (ix v_188 v_189))) fun limit_190 => (onE (Res.ok a_95) fun given_191 => (onE (p_worst_partner given_191 place_179 limit_190) fun partner_203 => (onE (ror (Res.bind (Res.bind (p__law_partner a_95 place_179 limit_190) fun v_225 => (p__law_is_list partner_203 v_225)) fun c => .ok (!c)) (Res.ok (!decide (given_191 = a_95)))) fun c => if c then (.rt false) else (TF.bind (σ := Unit) (if (decide (size_36 ≤ (128 : Int))) then (onE (p_multiply a_95 partner_203) fun product_233 => (onE (ror (Res.bind (ix product_233 place_179) fun v_235 => (Res.bind (Res.bind (p_norm_one a_95) fun v_234 => (imul v_234 limit_190)) fun v_236 => (Res.ok (!decide (v_235 = v_236))))) (Res.bind (p_norm product_233) fun v_238 => (Res.bind (Res.bind (p_norm_one a_95) fun v_237 => (imul v_237 limit_190)) fun v_239 => (Res.ok (!decide (v_238 = v_239)))))) fun c => if c then (.rt false) else (.nx ()))) else (.nx ())) fun s_240 => (onE (Res.bind (Res.bind (Res.bind (Res.bind (ishl (1 : Int) (90 : Int)) fun v_241 => (imod (iabs k_98) v_241)) fun v_242 => (Res.ok ((1 : Int) + v_242))) fun v_312 => (Res.bind (Res.bind (Res.bind (idiv (iabs k_98) (7 : Int)) fun v_243 => (imod v_243 (200 : Int))) fun v_244 => (Res.ok ((3 : Int) + v_244))) fun v_313 => (Res.bind (imod (iabs k_98) (9 : Int)) fun v_314 => (p__law_items a_95 v_312 v_313 v_314)))) fun c => .ok (!c)) fun c => if c then (.rt false) else (if (decide (size_36 > (128 : Int))) then (onE (Res.bind (Res.bind (p__law_cell script (8 : Int)) fun v_315 => (Res.ok (iabs v_315))) fun v_447 => (p__law_bounds a_95 v_447)) TF.rt) else (onE (Res.bind (Res.bind (Res.bind (Res.bind (Res.bind (p__law_cell script (9 : Int)) fun v_448 => (Res.ok (iabs v_448))) fun v_449 => (imod v_449 (4 : Int))) fun v_450 => (Res.ok ((1 : Int) + v_450))) irange) fun xs_453 => (cmapE (fun (x_451 : Int) => (Res.bind (p__law_cell script ((5 : Int) + x_451)) fun v_452 => (p__law_poly v_452 size_36 (5 : Int)))) xs_453)) fun parts_454 => (onE (Res.bind (Res.bind (cmap (fun (x_455 : (List Int)) => x_455) parts_454) fun x => .ok (Enc.enc x : D)) fun v_456 => (Res.ok ([v_456, (Enc.enc b_97 : D)] : List D))) fun given_457 => (onE (cmap (fun (x_458 : Int) => (0 : Int)) a_95) fun due_459 => (onE (Res.bind (Res.bind (irange (size_36 - (1 : Int))) fun xs_461 => (cmap (fun (x_460 : Int) => (0 : Int)) xs_461)) fun v_462 => (lcat ([(1 : Int)] : List Int) v_462)) fun power_463 => (TF.bind (tFor parts_454 ((due_459, power_463) : ((List Int) × (List Int))) (fun (x_465 : (List Int)) (s_464 : ((List Int) × (List Int))) => (onE (Res.bind (Res.bind (Res.ok s_464.1) fun xs => Res.bind (p__law_times x_465 s_464.2) fun ys => .ok (List.zip xs ys)) fun xs_467 => (cmap (fun (x_466 : (Int × Int)) => (x_466.1 + x_466.2)) xs_467)) fun due_468 => (onE (p__law_times s_464.2 b_97) fun power_469 => (.nx (due_468, power_469)))))) fun s_470 => (onE (ror (Res.bind (Res.bind (Res.bind (Res.bind (ix given_457 (0 : Int)) fun v_471 => (Res.bind (ix given_457 (1 : Int)) fun v_472 => (f_evaluate [v_471, v_472]))) fun v_474 => (f__law_is_list [v_474, (Enc.enc s_470.1)])) D.truth) fun c => .ok (!c)) (dB (opNe (Enc.enc given_457) (Enc.enc ([(Enc.enc parts_454 : D), (Enc.enc b_97 : D)] : List D))))) fun c => if c then (.rt false) else (onE (Res.bind (Res.bind (p__law_cell script (8 : Int)) fun v_475 => (Res.ok (iabs v_475))) fun v_476 => (p__law_bounds a_95 v_476)) TF.rt))))))))))))))))))))))
theorem s_law (script : (List Int)) : Sm Enc.enc (f_law [Enc.enc script]) (p_law script) := by
  unfold f_law b_law t_law_3 t_law_2 t_law_1 t_law_0 w_law_0 c_law_2 c_law_1 c_law_0
  exact fn_sim rfl (by decide) (k_seq (k_asgE (r := (Res.bind (p__law_cell script (0 : Int)) fun v_35 => (p__law_size v_35))) (by decide) Sub.nil (fun η hl h => (u_call (a_consE (u_call (a_consP (e_var (x := script) h 0 rfl) (a_consP (e_lit (x := (0 : Int)) rfl) (a_nil (s__law_cell script (0 : Int)))))) fun v_35 => (a_nil (s__law_size v_35))))) fun size_36 => (k_seq (k_asgE (r := (Res.bind (Res.bind (ishl (1 : Int) (40 : Int)) fun v_37 => (Res.ok ([(3 : Int), v_37, (1 : Int)] : List Int))) fun v_41 => (Res.bind (Res.bind (Res.bind (Res.bind (p__law_cell script (0 : Int)) fun v_38 => (Res.ok (iabs v_38))) fun v_39 => (idiv v_39 (5 : Int))) fun v_40 => (imod v_40 (3 : Int))) fun v_42 => (ix v_41 v_42)))) (by decide) Sub.nil (fun η hl h => (u_op2 (bE (u_lst (a_consP (e_lit (x := (3 : Int)) rfl) (a_consE (u_op2 (bP (e_lit (x := (1 : Int)) rfl) (bP (e_lit (x := (40 : Int)) rfl) (l_shl (x := (1 : Int)) (y := (40 : Int)))))) fun v_37 => (a_consP (e_lit (x := (1 : Int)) rfl) (a_nil (l_lst (xs := ([(3 : Int), v_37, (1 : Int)] : List Int)) rfl rfl)))))) fun v_41 => (bE (u_op2 (bE (u_op2 (bE (u_call (a_consE (u_call (a_consP (e_var (x := script) h 0 rfl) (a_consP (e_lit (x := (0 : Int)) rfl) (a_nil (s__law_cell script (0 : Int)))))) fun v_38 => (a_nil (l_abs (x := v_38))))) fun v_39 => (bP (e_lit (x := (5 : Int)) rfl) (l_div (x := v_39) (y := (5 : Int)))))) fun v_40 => (bP (e_lit (x := (3 : Int)) rfl) (l_mod (x := v_40) (y := (3 : Int)))))) fun v_42 => (l_ix (xs := v_41) (x := v_42)))))) fun most_43 => (k_seq (k_asgE (r := (Res.bind (p__law_cell script (1 : Int)) fun v_94 => (p__law_poly v_94 size_36 most_43))) (by decide) Sub.nil (fun η hl h => (u_call (a_consE (u_call (a_consP (e_var (x := script) h 0 rfl) (a_consP (e_lit (x := (1 : Int)) rfl) (a_nil (s__law_cell script (1 : Int)))))) fun v_94 => (a_consP (e_var (x := size_36) h 1 rfl) (a_consP (e_var (x := most_43) h 2 rfl) (a_nil (s__law_poly v_94 size_36 most_43))))))) fun a_95 => (k_seq (k_asgE (r := (Res.bind (p__law_cell script (2 : Int)) fun v_96 => (p__law_poly v_96 size_36 most_43))) (by decide) Sub.nil (fun η hl h => (u_call (a_consE (u_call (a_consP (e_var (x := script) h 0 rfl) (a_consP (e_lit (x := (2 : Int)) rfl) (a_nil (s__law_cell script (2 : Int)))))) fun v_96 => (a_consP (e_var (x := size_36) h 1 rfl) (a_consP (e_var (x := most_43) h 2 rfl) (a_nil (s__law_poly v_96 size_36 most_43))))))) fun b_97 => (k_seq (k_asgE (r := (p__law_cell script (3 : Int))) (by decide) Sub.nil (fun η hl h => (u_call (a_consP (e_var (x := script) h 0 rfl) (a_consP (e_lit (x := (3 : Int)) rfl) (a_nil (s__law_cell script (3 : Int))))))) fun k_98 => (k_seq (k_ifE Sub.nil (fun η hl h => (u_qNot (u_qTruB (u_call (a_consP (u_call (a_consP (e_var (x := a_95) h 3 rfl) (a_nil (l_list (xs := a_95))))) (a_consP (u_call (a_consP (e_var (x := b_97) h 4 rfl) (a_nil (l_list (xs := b_97))))) (a_consP (e_var (x := k_98) h 5 rfl) (a_nil (s__law_sizes a_95 b_97 k_98))))))))) (k_retP fun η hl h => (e_lit (x := false) rfl)) (k_next (k_seq (k_asgE (r := (Res.bind (Res.bind (p__law_cell script (4 : Int)) fun v_177 => (Res.ok (iabs v_177))) fun v_178 => (imod v_178 size_36))) (by decide) Sub.nil (fun η hl h => (u_op2 (bE (u_call (a_consE (u_call (a_consP (e_var (x := script) h 0 rfl) (a_consP (e_lit (x := (4 : Int)) rfl) (a_nil (s__law_cell script (4 : Int)))))) fun v_177 => (a_nil (l_abs (x := v_177))))) fun v_178 => (bP (e_var (x := size_36) h 1 rfl) (l_mod (x := v_178) (y := size_36)))))) fun place_179 => (k_seq (k_asgE (r := (Res.bind (Res.bind (Res.bind (Res.bind (Res.bind (p__law_cell script (4 : Int)) fun v_180 => (Res.ok (iabs v_180))) fun v_181 => (idiv v_181 size_36)) fun v_182 => (imod v_182 (10 : Int))) fun v_183 => (Res.bind (ishl (1 : Int) (70 : Int)) fun v_184 => (Res.ok ([v_183, v_184] : List Int)))) fun v_188 => (Res.bind (Res.bind (Res.bind (Res.bind (p__law_cell script (4 : Int)) fun v_185 => (Res.ok (iabs v_185))) fun v_186 => (idiv v_186 (160 : Int))) fun v_187 => (imod v_187 (2 : Int))) fun v_189 => (ix v_188 v_189)))) (by decide) Sub.nil (fun η hl h => (u_op2 (bE (u_lst (a_consE (u_op2 (bE (u_op2 (bE (u_call (a_consE (u_call (a_consP (e_var (x := script) h 0 rfl) (a_consP (e_lit (x := (4 : Int)) rfl) (a_nil (s__law_cell script (4 : Int)))))) fun v_180 => (a_nil (l_abs (x := v_180))))) fun v_181 => (bP (e_var (x := size_36) h 1 rfl) (l_div (x := v_181) (y := size_36))))) fun v_182 => (bP (e_lit (x := (10 : Int)) rfl) (l_mod (x := v_182) (y := (10 : Int)))))) fun v_183 => (a_consE (u_op2 (bP (e_lit (x := (1 : Int)) rfl) (bP (e_lit (x := (70 : Int)) rfl) (l_shl (x := (1 : Int)) (y := (70 : Int)))))) fun v_184 => (a_nil (l_lst (xs := ([v_183, v_184] : List Int)) rfl rfl))))) fun v_188 => (bE (u_op2 (bE (u_op2 (bE (u_call (a_consE (u_call (a_consP (e_var (x := script) h 0 rfl) (a_consP (e_lit (x := (4 : Int)) rfl) (a_nil (s__law_cell script (4 : Int)))))) fun v_185 => (a_nil (l_abs (x := v_185))))) fun v_186 => (bP (e_lit (x := (160 : Int)) rfl) (l_div (x := v_186) (y := (160 : Int)))))) fun v_187 => (bP (e_lit (x := (2 : Int)) rfl) (l_mod (x := v_187) (y := (2 : Int)))))) fun v_189 => (l_ix (xs := v_188) (x := v_189)))))) fun limit_190 => (k_seq (k_asgE (r := (Res.ok a_95)) (by decide) Sub.nil (fun η hl h => (u_call (a_consP (e_var (x := a_95) h 3 rfl) (a_nil (l_list (xs := a_95)))))) fun given_191 => (k_seq (k_asgE (r := (p_worst_partner given_191 place_179 limit_190)) (by decide) Sub.nil (fun η hl h => (u_call (a_consP (e_var (x := given_191) h 8 rfl) (a_consP (e_var (x := place_179) h 6 rfl) (a_consP (e_var (x := limit_190) h 7 rfl) (a_nil (s_worst_partner given_191 place_179 limit_190))))))) fun partner_203 => (k_seq (k_ifE Sub.nil (fun η hl h => (u_qOr (u_qNot (u_qTruB (u_call (a_consP (e_var (x := partner_203) h 9 rfl) (a_consE (u_call (a_consP (e_var (x := a_95) h 3 rfl) (a_consP (e_var (x := place_179) h 6 rfl) (a_consP (e_var (x := limit_190) h 7 rfl) (a_nil (s__law_partner a_95 place_179 limit_190)))))) fun v_225 => (a_nil (s__law_is_list partner_203 v_225))))))) (u_qB (u_op2 (bP (e_var (x := given_191) h 8 rfl) (bP (e_var (x := a_95) h 3 rfl) (l_ne (x := given_191) (y := a_95)))))))) (k_retP fun η hl h => (e_lit (x := false) rfl)) (k_next (k_seq (k_join (Lm := fun (s_240 : Unit) => [(0, Enc.enc script), (1, Enc.enc size_36), (3, Enc.enc a_95), (4, Enc.enc b_97), (5, Enc.enc k_98)]) (k_ifP (fun η hl h => (u_qB (u_op2 (bP (e_var (x := size_36) h 1 rfl) (bP (e_lit (x := (128 : Int)) rfl) (l_le (x := size_36) (y := (128 : Int)))))))) (k_seq (k_asgE (r := (p_multiply a_95 partner_203)) (by decide) Sub.nil (fun η hl h => (u_call (a_consP (e_var (x := a_95) h 3 rfl) (a_consP (e_var (x := partner_203) h 9 rfl) (a_nil (s_multiply a_95 partner_203)))))) fun product_233 => (k_ifE Sub.nil (fun η hl h => (u_qOr (u_qB (u_op2 (bE (u_op2 (bP (e_var (x := product_233) h 10 rfl) (bP (e_var (x := place_179) h 6 rfl) (l_ix (xs := product_233) (x := place_179))))) fun v_235 => (bE (u_op2 (bE (u_call (a_consP (e_var (x := a_95) h 3 rfl) (a_nil (s_norm_one a_95)))) fun v_234 => (bP (e_var (x := limit_190) h 7 rfl) (l_mul (x := v_234) (y := limit_190))))) fun v_236 => (l_ne (x := v_235) (y := v_236)))))) (u_qB (u_op2 (bE (u_call (a_consP (e_var (x := product_233) h 10 rfl) (a_nil (s_norm product_233)))) fun v_238 => (bE (u_op2 (bE (u_call (a_consP (e_var (x := a_95) h 3 rfl) (a_nil (s_norm_one a_95)))) fun v_237 => (bP (e_var (x := limit_190) h 7 rfl) (l_mul (x := v_237) (y := limit_190))))) fun v_239 => (l_ne (x := v_238) (y := v_239)))))))) (k_retP fun η hl h => (e_lit (x := false) rfl)) (k_next (k_end (Sub.of ⟨rfl, rfl, rfl, rfl, rfl, trivial⟩)))))) (k_next (k_end (Sub.of ⟨rfl, rfl, rfl, rfl, rfl, trivial⟩)))) fun s_240 => (k_seq (k_ifE Sub.nil (fun η hl h => (u_qNot (u_qTruB (u_call (a_consP (e_var (x := a_95) h 3 rfl) (a_consE (u_op2 (bP (e_lit (x := (1 : Int)) rfl) (bE (u_op2 (bP (u_call (a_consP (e_var (x := k_98) h 5 rfl) (a_nil (l_abs (x := k_98))))) (bE (u_op2 (bP (e_lit (x := (1 : Int)) rfl) (bP (e_lit (x := (90 : Int)) rfl) (l_shl (x := (1 : Int)) (y := (90 : Int)))))) fun v_241 => (l_mod (x := (iabs k_98)) (y := v_241))))) fun v_242 => (l_add (x := (1 : Int)) (y := v_242))))) fun v_312 => (a_consE (u_op2 (bP (e_lit (x := (3 : Int)) rfl) (bE (u_op2 (bE (u_op2 (bP (u_call (a_consP (e_var (x := k_98) h 5 rfl) (a_nil (l_abs (x := k_98))))) (bP (e_lit (x := (7 : Int)) rfl) (l_div (x := (iabs k_98)) (y := (7 : Int)))))) fun v_243 => (bP (e_lit (x := (200 : Int)) rfl) (l_mod (x := v_243) (y := (200 : Int)))))) fun v_244 => (l_add (x := (3 : Int)) (y := v_244))))) fun v_313 => (a_consE (u_op2 (bP (u_call (a_consP (e_var (x := k_98) h 5 rfl) (a_nil (l_abs (x := k_98))))) (bP (e_lit (x := (9 : Int)) rfl) (l_mod (x := (iabs k_98)) (y := (9 : Int)))))) fun v_314 => (a_nil (s__law_items a_95 v_312 v_313 v_314)))))))))) (k_retP fun η hl h => (e_lit (x := false) rfl)) (k_next (k_seq (k_ifP (fun η hl h => (u_qB (u_op2 (bP (e_var (x := size_36) h 1 rfl) (bP (e_lit (x := (128 : Int)) rfl) (l_gt (x := size_36) (y := (128 : Int)))))))) (k_retE Sub.nil fun η hl h => (u_call (a_consP (e_var (x := a_95) h 3 rfl) (a_consE (u_call (a_consE (u_call (a_consP (e_var (x := script) h 0 rfl) (a_consP (e_lit (x := (8 : Int)) rfl) (a_nil (s__law_cell script (8 : Int)))))) fun v_315 => (a_nil (l_abs (x := v_315))))) fun v_447 => (a_nil (s__law_bounds a_95 v_447)))))) (k_next (k_seq (k_asgE (r := (Res.bind (Res.bind (Res.bind (Res.bind (Res.bind (p__law_cell script (9 : Int)) fun v_448 => (Res.ok (iabs v_448))) fun v_449 => (imod v_449 (4 : Int))) fun v_450 => (Res.ok ((1 : Int) + v_450))) irange) fun xs_453 => (cmapE (fun (x_451 : Int) => (Res.bind (p__law_cell script ((5 : Int) + x_451)) fun v_452 => (p__law_poly v_452 size_36 (5 : Int)))) xs_453))) (by decide) Sub.nil (fun η hl h => (compI (i_range1E (u_op2 (bP (e_lit (x := (1 : Int)) rfl) (bE (u_op2 (bE (u_call (a_consE (u_call (a_consP (e_var (x := script) h 0 rfl) (a_consP (e_lit (x := (9 : Int)) rfl) (a_nil (s__law_cell script (9 : Int)))))) fun v_448 => (a_nil (l_abs (x := v_448))))) fun v_449 => (bP (e_lit (x := (4 : Int)) rfl) (l_mod (x := v_449) (y := (4 : Int)))))) fun v_450 => (l_add (x := (1 : Int)) (y := v_450)))))) fun xs_453 hi => (compE hl h hi (fun x_451 => (t_name 15 (by decide))) (fun x_451 η hl h => (u_call (a_consE (u_call (a_consP (e_var (x := script) h 0 rfl) (a_consP (u_op2 (bP (e_lit (x := (5 : Int)) rfl) (bP (e_var (x := x_451) h 15 rfl) (l_add (x := (5 : Int)) (y := x_451))))) (a_nil (s__law_cell script ((5 : Int) + x_451)))))) fun v_452 => (a_consP (e_var (x := size_36) h 1 rfl) (a_consP (e_lit (x := (5 : Int)) rfl) (a_nil (s__law_poly v_452 size_36 (5 : Int))))))))))) fun parts_454 => (k_seq (k_asgE (r := (Res.bind (Res.bind (cmap (fun (x_455 : (List Int)) => x_455) parts_454) fun x => .ok (Enc.enc x : D)) fun v_456 => (Res.ok ([v_456, (Enc.enc b_97 : D)] : List D)))) (by decide) Sub.nil (fun η hl h => (u_lst (a_consE (l_coeE (compP hl h (i_seqP (e_var (x := parts_454) h 11 rfl)) (fun x_455 => (t_name 14 (by decide))) (fun x_455 η hl h => (u_call (a_consP (e_var (x := x_455) h 14 rfl) (a_nil (l_list (xs := x_455)))))))) fun v_456 => (a_consP (l_coe (u_call (a_consP (e_var (x := b_97) h 4 rfl) (a_nil (l_list (xs := b_97)))))) (a_nil (l_lst (xs := ([v_456, (Enc.enc b_97 : D)] : List D)) rfl rfl)))))) fun given_457 => (k_seq (k_asgE (r := (cmap (fun (x_458 : Int) => (0 : Int)) a_95)) (by decide) Sub.nil (fun η hl h => (compP hl h (i_seqP (e_var (x := a_95) h 3 rfl)) (fun x_458 => (t_name 16 (by decide))) (fun x_458 η hl h => (e_lit (x := (0 : Int)) rfl)))) fun due_459 => (k_seq (k_asgE (r := (Res.bind (Res.bind (irange (size_36 - (1 : Int))) fun xs_461 => (cmap (fun (x_460 : Int) => (0 : Int)) xs_461)) fun v_462 => (lcat ([(1 : Int)] : List Int) v_462))) (by decide) Sub.nil (fun η hl h => (u_op2 (bP (u_lst (a_consP (e_lit (x := (1 : Int)) rfl) (a_nil (l_lst (xs := ([(1 : Int)] : List Int)) rfl rfl)))) (bE (compI (i_range1P (u_op2 (bP (e_var (x := size_36) h 1 rfl) (bP (e_lit (x := (1 : Int)) rfl) (l_sub (x := size_36) (y := (1 : Int))))))) fun xs_461 hi => (compP hl h hi (fun x_460 => (t_name 15 (by decide))) (fun x_460 η hl h => (e_lit (x := (0 : Int)) rfl)))) fun v_462 => (l_cat (xs := ([(1 : Int)] : List Int)) (ys := v_462)))))) fun power_463 => (k_seq (k_forP (xs := parts_454) (fun (s_464 : ((List Int) × (List Int))) => [(0, Enc.enc script), (3, Enc.enc a_95), (4, Enc.enc b_97), (8, Enc.enc given_457), (11, Enc.enc parts_454), (12, Enc.enc s_464.1), (13, Enc.enc s_464.2)]) (s0 := ((due_459, power_463) : ((List Int) × (List Int)))) (fun η hl h => (i_seqP (e_var (x := parts_454) h 11 rfl))) (Sub.of ⟨rfl, rfl, rfl, rfl, rfl, rfl, rfl, trivial⟩) (fun x_465 s_464 => (t_name 14 (by decide))) (fun x_465 s_464 => (k_seq (k_asgE (r := (Res.bind (Res.bind (Res.ok s_464.1) fun xs => Res.bind (p__law_times x_465 s_464.2) fun ys => .ok (List.zip xs ys)) fun xs_467 => (cmap (fun (x_466 : (Int × Int)) => (x_466.1 + x_466.2)) xs_467))) (by decide) Sub.nil (fun η hl h => (compI (i_zipE (r := (Res.ok s_464.1)) (s := (p__law_times x_465 s_464.2)) (e_var (x := s_464.1) h 12 rfl) (u_call (a_consP (e_var (x := x_465) h 14 rfl) (a_consP (e_var (x := s_464.2) h 13 rfl) (a_nil (s__law_times x_465 s_464.2)))))) fun xs_467 hi => (compP hl h hi (fun x_466 => (t_tup (ts_cons (t_name 16 (by decide)) (ts_cons (t_name 17 (by decide)) ts_nil)))) (fun x_466 η hl h => (u_op2 (bP (e_var (x := x_466.1) h 16 rfl) (bP (e_var (x := x_466.2) h 17 rfl) (l_add (x := x_466.1) (y := x_466.2))))))))) fun due_468 => (k_asgE (r := (p__law_times s_464.2 b_97)) (by decide) Sub.nil (fun η hl h => (u_call (a_consP (e_var (x := s_464.2) h 13 rfl) (a_consP (e_var (x := b_97) h 4 rfl) (a_nil (s__law_times s_464.2 b_97)))))) fun power_469 => (k_end (Sub.of ⟨rfl, rfl, rfl, rfl, rfl, rfl, rfl, trivial⟩)))))) fun s_470 => (k_seq (k_ifE Sub.nil (fun η hl h => (u_qOr (u_qNot (u_qTruD (u_call (a_consE (u_call (a_consE (u_op2 (bP (e_var (x := given_457) h 8 rfl) (bP (e_lit (x := (0 : Int)) rfl) (l_ix (xs := given_457) (x := (0 : Int)))))) fun v_471 => (a_consE (u_op2 (bP (e_var (x := given_457) h 8 rfl) (bP (e_lit (x := (1 : Int)) rfl) (l_ix (xs := given_457) (x := (1 : Int)))))) fun v_472 => (a_nil l_D)))) fun v_474 => (a_consP (e_var (x := s_470.1) h 12 rfl) (a_nil l_D)))))) (u_qB (u_op2 (bP (e_var (x := given_457) h 8 rfl) (bP (u_lst (a_consP (l_coe (e_var (x := parts_454) h 11 rfl)) (a_consP (l_coe (e_var (x := b_97) h 4 rfl)) (a_nil (l_lst (xs := ([(Enc.enc parts_454 : D), (Enc.enc b_97 : D)] : List D)) rfl rfl))))) l_neD)))))) (k_retP fun η hl h => (e_lit (x := false) rfl)) (k_next (k_retE Sub.nil fun η hl h => (u_call (a_consP (e_var (x := a_95) h 3 rfl) (a_consE (u_call (a_consE (u_call (a_consP (e_var (x := script) h 0 rfl) (a_consP (e_lit (x := (8 : Int)) rfl) (a_nil (s__law_cell script (8 : Int)))))) fun v_475 => (a_nil (l_abs (x := v_475))))) fun v_476 => (a_nil (s__law_bounds a_95 v_476)))))))))))))))))))))))))))))))))))))))))))))))))))
end K03
namespace K03
open PySem hiding Env
open VL VT Enc
local macro_rules
  | `(tactic| trivial) => `(tactic| first
    | assumption
    | exact Sz_num
    | (refine mul_ok ?_ ?_ ?_ <;> trivial)
    | (refine Sz.mul ?_ ?_ <;> trivial)
    | (refine Sz.add ?_ ?_ <;> trivial)
    | (refine Sz.sub ?_ ?_ <;> trivial)
    | (refine Sz.neg ?_ <;> trivial)
    | (refine div_ok (by omega) (Sz.mono ?_ ?_) <;> trivial)
    | (refine Sz.mod ?_ (by omega) <;> trivial)
    | (refine Sz.div ?_ (by omega) <;> trivial)
    | omega
    | decide)
def szOk (n : Int) : Bool := decide (1 ≤ n) && decide (n ≤ 1024) && decide (Builtin.bitAnd n (n - 1) = 0)
theorem cs_eq (n : Int) : p_check_size n = if szOk n then .ok () else .exc .range := by
  unfold p_check_size szOk
  cases decide (1 ≤ n) <;> cases decide (n ≤ 1024) <;> cases decide (Builtin.bitAnd n (n - 1) = 0) <;> rfl
theorem sz_pow : ∀ e : Nat, e < 11 → szOk ((2 ^ e : Nat) : Int) = true := by decide
def Pl (e : Nat) (a : List Int) : Prop := a.length = 2 ^ e ∧ e ≤ 10
section
variable {e : Nat} {a b : List Int}
theorem Pl.pos (h : Pl e a) : 0 < a.length := by rw [h.1]; exact Nat.two_pow_pos e
theorem Pl.le (h : Pl e a) : a.length ≤ 1024 := by
  rw [h.1]
  exact Nat.pow_le_pow_right (n := 2) (by decide) h.2
theorem Pl.cs (h : Pl e a) : p_check_size (ilen a) = .ok () := by
  unfold ilen
  rw [cs_eq, h.1, sz_pow e (by have := h.2; omega), if_pos rfl]
theorem Pl.of (h : Pl e a) (hl : b.length = a.length) : Pl e b := ⟨hl.trans h.1, h.2⟩
end
section
variable {e : Nat} {a b : List Int}
theorem Pl.cp (h : Pl e a) (hb : Pl e b) : p_check_pair a b = .ok () := by
  have e1 : ilen a = ilen b := by unfold ilen; rw [h.1, hb.1]
  have c := h.cs
  rw [e1] at c
  simp [p_check_pair, c, e1]
end
section
variable {e : Nat} {a b : List Int}
theorem add_ok (h : Pl e a) (hb : Pl e b) : p_add a b = .ok (tab a.length fun i => at0 a i + at0 b i) := by
  have l := h.le
  simp [p_add, h.cp hb, cmap_ok (xs := a.zip b) (by simp; omega), zip_map_tab (h.1.trans hb.1.symm)]
end
section
variable {e : Nat} {a b : List Int}
theorem zero_ok (h : Pl e a) : p_zero (ilen a) = .ok (List.replicate a.length 0) := by
  have l := h.le
  have e1 : lrep [(0 : Int)] (ilen a) = .ok (List.replicate a.length 0) := lrep1_ok (by omega)
  simp [p_zero, h.cs, e1]
end
theorem is_list_self (a : List Int) : p__law_is_list a a = .ok true := by
  have lp := tFor_all (β := Unit) (ρ := Bool) (xs := a.zip a) (f := fun x s => onE (ror (Res.bind (p__law_integer x.1) fun c => .ok (!c)) (Res.ok (!decide (x.1 = x.2)))) fun c => if c then (.rt false) else (.nx ())) fun x hx => by
    have e : x.1 = x.2 := by
      obtain ⟨i, hi⟩ := List.getElem?_of_mem hx
      obtain ⟨h1, h2⟩ := zip_some hi
      rw [h1] at h2
      exact Option.some.inj h2
    left
    simp [p__law_integer, e]
  simp [p__law_is_list, lp]
section
variable {e : Nat} {a b : List Int}
def mst (n : Nat) (a b : List Int) (i j : Nat) : List Int := tab n fun p => sm i (fun i => sm n fun j => dl n (i + j - p) * (at0 a i * at0 b j)) + sm j fun j => dl n (i + j - p) * (at0 a i * at0 b j)
theorem mst_zero (n : Nat) (a b : List Int) : mst n a b 0 0 = tab n fun _ => 0 := by
  unfold mst
  exact tab_congr fun p _ => rfl
theorem mst_next (n : Nat) (a b : List Int) (i : Nat) : mst n a b i n = mst n a b (i + 1) 0 := by
  unfold mst
  exact tab_congr fun p _ => by
    show _ = (sm i _ + sm n _) + 0
    rw [Int.add_zero]
theorem mst_end (a b : List Int) : mst a.length a b a.length 0 = nmul a b := by
  unfold mst nmul
  exact tab_congr fun p _ => by
    show _ + 0 = _
    rw [Int.add_zero]
theorem mst_skip {n : Nat} {a b : List Int} {i : Nat} (h : at0 a i = 0) : mst n a b i 0 = mst n a b (i + 1) 0 := by
  rw [← mst_next]
  unfold mst
  refine tab_congr fun p _ => ?_
  rw [h]
  show _ + 0 = _
  rw [sm_zero (n := n) fun j _ => by rw [Int.zero_mul, Int.mul_zero]]
theorem mst_step {n : Nat} {a b : List Int} {i j : Nat} (hi : i < n) (hj : j < n) : mst n a b i (j + 1) = if i + j < n then (mst n a b i j).set (i + j) (at0 (mst n a b i j) (i + j) + at0 a i * at0 b j) else (mst n a b i j).set (i + j - n) (at0 (mst n a b i j) (i + j - n) - at0 a i * at0 b j) := by
  unfold mst
  have hn : 0 < n := by omega
  split
  · rename_i h
    rw [tab_at h, tab_set]
    refine tab_congr fun p hp => ?_
    show _ + (sm j _ + dl n (i + j - p) * (at0 a i * at0 b j)) = _
    by_cases e : p = i + j
    · rw [if_pos e, e, show (i : Int) + j - ((i + j : Nat) : Int) = 0 by omega, dl_zero, Int.one_mul]; omega
    · rw [if_neg e, dl_small (by omega) (by omega) (by omega), Int.zero_mul]; omega
  · rename_i h
    rw [tab_at (by omega), tab_set]
    refine tab_congr fun p hp => ?_
    show _ + (sm j _ + dl n (i + j - p) * (at0 a i * at0 b j)) = _
    by_cases e : p = i + j - n
    · rw [if_pos e, e, show (i : Int) + j - ((i + j - n : Nat) : Int) = 0 + n by omega, dl_half hn, dl_zero, Int.neg_mul, Int.one_mul]; omega
    · rw [if_neg e]
      have z : dl n ((i : Int) + j - p) = 0 := by
        rw [show (i : Int) + j - p = (i + j - p - n) + n by omega, dl_half hn, dl_small (by omega) (by omega) (by omega)]; rfl
      rw [z, Int.zero_mul]; omega
@[simp] theorem mst_len {n : Nat} {a b : List Int} {i j : Nat} : (mst n a b i j).length = n := tab_len
theorem multiply_ok (h : Pl e a) (hb : Pl e b) (za : ∀ x ∈ a, Sz 1000 x) (zb : ∀ x ∈ b, Sz 1000 x) : p_multiply a b = .ok (nmul a b) := by
  have hl : b.length = a.length := hb.1.trans h.1.symm
  have l := h.le
  have hr : lrep [(0 : Int)] (ilen a) = .ok (List.replicate a.length 0) := lrep1_ok (by omega)
  unfold p_multiply
  simp only [h.cp hb, hr, on_ok]
  rw [tFor_st (fun i => mst a.length a b i 0) ?_ ?_]
  · simp [mst_end]
  · rw [mst_zero, rep_tab]
  · intro i x hx
    left
    obtain ⟨h1, h2⟩ := enum_some hx
    have hi := (List.getElem?_eq_some_iff.mp h1).1
    have e1 := at0_some h1
    rw [Nat.zero_add] at h2
    by_cases hz : x.2 = 0
    · simp [hz, mst_skip (n := a.length) (b := b) (i := i) (by rw [e1, hz])]
    · rw [if_pos (by simpa using hz), tFor_st (fun j => mst a.length a b i j) rfl ?_]
      · simp [hl, mst_next]
      · intro j y hy
        left
        obtain ⟨g1, g2⟩ := enum_some hy
        have hj := (List.getElem?_eq_some_iff.mp g1).1
        have f1 := at0_some g1
        rw [Nat.zero_add] at g2
        have m1 : mulOk x.2 y.2 = true := mul_ok (za _ (List.mem_of_getElem? h1)) (zb _ (List.mem_of_getElem? g1)) (by decide)
        have st := mst_step (a := a) (b := b) hi (show j < a.length by omega)
        rw [e1, f1] at st
        have g0 : ∀ p : Nat, p < a.length → ix (mst a.length a b i j) (p : Int) = .ok (at0 (mst a.length a b i j) p) := fun p hp => ix_ok (get_at0 (by simpa using hp))
        have s0 : ∀ (p : Nat) (v : Int), p < a.length → setI (mst a.length a b i j) (p : Int) v = .ok ((mst a.length a b i j).set p v) := fun p v hp => setI_ok (by simpa using hp)
        rw [h2, g2, st]
        by_cases hc : i + j < a.length
        · have c1 : (i : Int) + j < ilen a := by unfold ilen; omega
          have e2 : (i : Int) + j = ((i + j : Nat) : Int) := by omega
          have g1 := g0 _ hc
          have s1 := fun v => s0 _ v hc
          rw [← e2] at g1 s1
          rw [if_pos (by simpa using c1), if_pos hc]
          simp only [g1, imul_ok m1, s1, rb_ok, on_ok]
        · have c1 : ¬ (i : Int) + j < ilen a := by unfold ilen; omega
          have e2 : (i : Int) + j - ilen a = ((i + j - a.length : Nat) : Int) := by unfold ilen; omega
          have hc2 : i + j - a.length < a.length := by omega
          have g1 := g0 _ hc2
          have s1 := fun v => s0 _ v hc2
          rw [← e2] at g1 s1
          rw [if_neg (by simpa using c1), if_neg hc]
          simp only [g1, imul_ok m1, s1, rb_ok, on_ok]
end
section
variable {e : Nat} {a b : List Int}
def fst' (n : Nat) (a b : List Int) (i j : Nat) : List Int := tab (2 * n) fun p => sm i (fun i => sm n fun j => if i + j = p then at0 a i * at0 b j else 0) + sm j fun j => if i + j = p then at0 a i * at0 b j else 0
@[simp] theorem fst_len {n : Nat} {a b : List Int} {i j : Nat} : (fst' n a b i j).length = 2 * n := tab_len
theorem fst_zero (n : Nat) (a b : List Int) : fst' n a b 0 0 = tab (2 * n) fun _ => 0 := by
  unfold fst'
  exact tab_congr fun p _ => rfl
theorem fst_next (n : Nat) (a b : List Int) (i : Nat) : fst' n a b i n = fst' n a b (i + 1) 0 := by
  unfold fst'
  exact tab_congr fun p _ => by
    show _ = (sm i _ + sm n _) + 0
    rw [Int.add_zero]
theorem fst_step {n : Nat} {a b : List Int} {i j : Nat} (hi : i < n) (hj : j < n) : fst' n a b i (j + 1) = (fst' n a b i j).set (i + j) (at0 (fst' n a b i j) (i + j) + at0 a i * at0 b j) := by
  unfold fst'
  rw [tab_at (by omega), tab_set]
  refine tab_congr fun p hp => ?_
  show _ + (sm j _ + if i + j = p then at0 a i * at0 b j else 0) = _
  by_cases e : p = i + j
  · rw [if_pos e, if_pos e.symm, e]; omega
  · rw [if_neg e, if_neg (Ne.symm e)]; omega
theorem fst_fold {n : Nat} {a b : List Int} {p : Nat} (hp : p < n) : at0 (fst' n a b n 0) p - at0 (fst' n a b n 0) (p + n) = sm n fun i => sm n fun j => dl n (i + j - p) * (at0 a i * at0 b j) := by
  unfold fst'
  rw [tab_at (by omega), tab_at (by omega)]
  show sm n _ + 0 - (sm n _ + 0) = _
  rw [Int.add_zero, Int.add_zero, ← sm_sub]
  refine sm_congr fun i hi => ?_
  rw [← sm_sub]
  refine sm_congr fun j hj => ?_
  by_cases e1 : i + j = p
  · rw [if_pos e1, if_neg (by omega), show (i : Int) + j - p = 0 by omega, dl_zero, Int.one_mul, Int.sub_zero]
  · rw [if_neg e1]
    by_cases e2 : i + j = p + n
    · rw [if_pos e2, show (i : Int) + j - p = 0 + n by omega, dl_half (by omega), dl_zero, Int.neg_mul, Int.one_mul, Int.zero_sub]
    · rw [if_neg e2, Int.sub_zero]
      have z : dl n ((i : Int) + j - p) = 0 := by
        by_cases h : (i : Int) + j - p < n
        · exact dl_small (by omega) h (by omega)
        · rw [show (i : Int) + j - p = (i + j - p - n) + n by omega, dl_half (by omega), dl_small (by omega) (by omega) (by omega)]; rfl
      rw [z, Int.zero_mul]
theorem times_ok (h : Pl e a) (hb : Pl e b) (za : ∀ x ∈ a, Sz 1000 x) (zb : ∀ x ∈ b, Sz 1000 x) : p__law_times a b = .ok (nmul a b) := by
  have hl : b.length = a.length := hb.1.trans h.1.symm
  have l := h.le
  have m2 : imul 2 (ilen a) = .ok ((2 * a.length : Nat) : Int) := by
    unfold ilen
    rw [imul_ok (mul_ok (n := 2) (m := 20) (Sz.lit (by decide)) (Sz_nat (by omega)) (by decide))]
    congr 1
  have r1 : irange (ilen a) = .ok (rng 0 a.length) := irange_ok (by omega)
  have r2 : irange ((2 * a.length : Nat) : Int) = .ok (rng 0 (2 * a.length)) := irange_ok (by omega)
  have c1 : cmap (fun (x : Int) => (0 : Int)) (rng 0 (2 * a.length)) = .ok (tab (2 * a.length) fun _ => 0) := by rw [cmap_ok (by simp; omega), rng_map_tab]
  unfold p__law_times
  simp only [m2, r1, r2, c1, rb_ok, on_ok]
  rw [tFor_st (fun i => fst' a.length a b i 0) ?_ ?_]
  · have g0 : ∀ p : Nat, p < 2 * a.length → ix (fst' a.length a b a.length 0) (p : Int) = .ok (at0 (fst' a.length a b a.length 0) p) := fun p hp => ix_ok (get_at0 (by simpa using hp))
    rw [rng_len, tb_nx]
    rw [cmapE_ok (g := fun p => at0 (fst' a.length a b a.length 0) p.toNat - at0 (fst' a.length a b a.length 0) (p.toNat + a.length)) (by simp; omega) (fun x hx => ?_)]
    · simp only [on_ok, rn_rt, rng_map_tab]
      congr 1
      unfold nmul
      refine tab_congr fun p hp => ?_
      rw [Int.toNat_natCast, fst_fold hp]
    · have hx' := rng_mem.mp hx
      obtain ⟨p, rfl⟩ : ∃ p : Nat, x = p := ⟨x.toNat, by omega⟩
      have e2 : (p : Int) + ilen a = ((p + a.length : Nat) : Int) := by unfold ilen; omega
      rw [e2, g0 p (by omega), g0 (p + a.length) (by omega), Int.toNat_natCast]
      simp only [rb_ok]
  · exact (fst_zero ..).symm
  · intro i x hx
    left
    obtain ⟨hi, rfl⟩ := rng_some hx
    rw [Int.zero_add, tFor_st (fun j => fst' a.length a b i j) rfl ?_]
    · simp [fst_next]
    · intro j y hy
      left
      obtain ⟨hj, rfl⟩ := rng_some hy
      rw [Int.zero_add]
      have e2 : (i : Int) + j = ((i + j : Nat) : Int) := by omega
      have g1 : ix (fst' a.length a b i j) ((i + j : Nat) : Int) = .ok (at0 (fst' a.length a b i j) (i + j)) := ix_ok (get_at0 (by simp; omega))
      have s1 : ∀ v, setI (fst' a.length a b i j) ((i + j : Nat) : Int) v = .ok ((fst' a.length a b i j).set (i + j) v) := fun v => setI_ok (by simp; omega)
      rw [← e2] at g1 s1
      have ga : ix a (i : Int) = .ok (at0 a i) := ix_ok (get_at0 hi)
      have gb : ix b (j : Int) = .ok (at0 b j) := ix_ok (get_at0 (by omega))
      have m1 : mulOk (at0 a i) (at0 b j) = true := mul_ok (za _ (List.mem_of_getElem? (get_at0 hi))) (zb _ (List.mem_of_getElem? (get_at0 (i := j) (by omega)))) (by decide)
      simp only [g1, ga, gb, imul_ok m1, s1, rb_ok, on_ok, fst_step hi hj]
end
theorem plc_set {n : Nat} (hn : 0 < n) {a : List Int} {q : Nat → Int} {m : Nat} (h : ∀ j, j < m → (q j - q m) % n ≠ 0) :
    plc n a q (m + 1) = if q m % (2 * n) < n then (plc n a q m).set (q m % (2 * n)).toNat (at0 a m) else (plc n a q m).set (q m % (2 * n) - n).toNat (-at0 a m) := by
  obtain ⟨f1, f2⟩ := plc_free hn h
  rw [plc_step hn]
  split
  · rename_i c; rw [f1 c, Int.zero_add]
  · rename_i c; rw [f2 c, Int.zero_sub]
section
variable {e : Nat} {a b : List Int}
theorem shift_ok (h : Pl e a) (s : Int) : p_shift a s = .ok (nshift a s) := by
  have hn := h.pos
  have l := h.le
  have hr : lrep [(0 : Int)] (ilen a) = .ok (List.replicate a.length 0) := lrep1_ok (by omega)
  have m2 : imul 2 (ilen a) = .ok (2 * (a.length : Int)) := imul_ok (mul_ok (n := 2) (m := 20) (Sz.lit (by decide)) (Sz_nat (by omega)) (by decide))
  unfold p_shift
  simp only [h.cs, hr, on_ok]
  rw [tFor_st (fun i => plc a.length a (fun j => (j : Int) + s) i) ?_ ?_]
  · simp [nshift]
  · rw [plc_zero, rep_tab]
  · intro i x hx
    left
    obtain ⟨h1, h2⟩ := enum_some hx
    have hi := (List.getElem?_eq_some_iff.mp h1).1
    have e1 := at0_some h1
    rw [Nat.zero_add] at h2
    have r0 := Int.emod_nonneg ((i : Int) + s) (show 2 * (a.length : Int) ≠ 0 by omega)
    have r1 := Int.emod_lt_of_pos ((i : Int) + s) (show 0 < 2 * (a.length : Int) by omega)
    have st := plc_set (n := a.length) hn (a := a) (q := fun j => (j : Int) + s) (m := i) fun j hj hz => by
      rw [show (j : Int) + s - (i + s) = j - i by omega] at hz
      have h4 := Int.mul_ediv_add_emod ((j : Int) - i) a.length
      rw [hz] at h4
      by_cases q : ((j : Int) - i) / a.length = 0
      · rw [q] at h4; omega
      · by_cases qp : 0 < ((j : Int) - i) / a.length
        · have : (a.length : Int) * 1 ≤ a.length * (((j : Int) - i) / a.length) := Int.mul_le_mul_of_nonneg_left (by omega) (by omega)
          omega
        · have : (a.length : Int) * (((j : Int) - i) / a.length) ≤ a.length * (-1) := Int.mul_le_mul_of_nonneg_left (by omega) (by omega)
          omega
    rw [st]
    rw [h2, m2, rb_ok, imod_ok (by omega), on_ok, e1]
    generalize ((i : Int) + s) % (2 * (a.length : Int)) = r at r0 r1
    by_cases hc : r < a.length
    · rw [if_pos (decide_eq_true (show r < ilen a from hc)), if_pos hc, setI_int r0 (by simpa using hc), on_ok]
    · rw [if_neg (fun q => hc (show r < ilen a from of_decide_eq_true q)), if_neg hc]
      unfold ilen
      rw [setI_int (by omega) (by simp; omega), on_ok]
end
section
variable {e : Nat} {a b : List Int}
theorem turn_ok (h : Pl e a) {t : Int} (ht : t % 2 = 1) {s : Nat} (zt : Sz s t) (hs : s ≤ 10000000) : p_turn a t = .ok (nturn a t) := by
  have hn := h.pos
  have l := h.le
  have hr : lrep [(0 : Int)] (ilen a) = .ok (List.replicate a.length 0) := lrep1_ok (by omega)
  have m2 : imul 2 (ilen a) = .ok (2 * (a.length : Int)) := imul_ok (mul_ok (n := 2) (m := 20) (Sz.lit (by decide)) (Sz_nat (by omega)) (by decide))
  have i2 : imod t 2 = .ok 1 := by rw [imod_ok (by decide), ht]
  unfold p_turn
  simp only [h.cs, hr, i2, rb_ok, on_ok]
  rw [if_neg (by decide), tFor_st (fun i => plc a.length a (fun j => (j : Int) * t) i) ?_ ?_]
  · simp [nturn]
  · rw [plc_zero, rep_tab]
  · intro i x hx
    left
    obtain ⟨h1, h2⟩ := enum_some hx
    have hi := (List.getElem?_eq_some_iff.mp h1).1
    have e1 := at0_some h1
    rw [Nat.zero_add] at h2
    have r0 := Int.emod_nonneg ((i : Int) * t) (show 2 * (a.length : Int) ≠ 0 by omega)
    have r1 := Int.emod_lt_of_pos ((i : Int) * t) (show 0 < 2 * (a.length : Int) by omega)
    have st := plc_set (n := a.length) hn (a := a) (q := fun j => (j : Int) * t) (m := i) fun j hj => by
      have := turn_ne (e := e) ht (i := j) (j := i) (by rw [← h.1]; omega) (by rw [← h.1]; omega) (by omega)
      rwa [← h.1] at this
    rw [st]
    have m3 : imul (i : Int) t = .ok ((i : Int) * t) := imul_ok (mul_ok (n := 20) (Sz_nat (by omega)) zt (by omega))
    rw [h2, m3, rb_ok, m2, rb_ok, imod_ok (by omega), on_ok, e1]
    generalize ((i : Int) * t) % (2 * (a.length : Int)) = r at r0 r1
    by_cases hc : r < a.length
    · rw [if_pos (decide_eq_true (show r < ilen a from hc)), if_pos hc, setI_int r0 (by simpa using hc), on_ok]
    · rw [if_neg (fun q => hc (show r < ilen a from of_decide_eq_true q)), if_neg hc]
      unfold ilen
      rw [setI_int (by omega) (by simp; omega), on_ok]
end
theorem mixed_ok {c k : Int} (zc : Sz 2000000 c) (zk : Sz 1000 k) : ∃ v : Int, p__law_mixed c k = .ok v ∧ 0 ≤ v ∧ v < 2147483648 := by
  have s1 : Sz 100 (2147483647 : Int) := Sz.lit (by decide)
  have m1 : imul c 48271 = .ok (c * 48271) := imul_ok (mul_ok (m := 100) zc (Sz.lit (by decide)) (by decide))
  have m2 : imul k 69621 = .ok (k * 69621) := imul_ok (mul_ok (m := 100) zk (Sz.lit (by decide)) (by decide))
  have m4 : imul k 40692 = .ok (k * 40692) := imul_ok (mul_ok (m := 100) zk (Sz.lit (by decide)) (by decide))
  have m6 : imul k 30269 = .ok (k * 30269) := imul_ok (mul_ok (m := 100) zk (Sz.lit (by decide)) (by decide))
  have sq : ∀ x : Int, Sz 100 x → imul x x = .ok (x * x) := fun x zx => imul_ok (mul_ok zx zx (by decide))
  have z1 : Sz 100 ((c * 48271 + k * 69621 + 7) % 2147483647) := Sz.mod s1 (by decide)
  generalize hx1 : (c * 48271 + k * 69621 + 7) % 2147483647 = x1 at z1
  have z2 : Sz 100 ((x1 * x1 + k * 40692 + 3) % 2147483629) := Sz.mod (Sz.lit (by decide)) (by decide)
  generalize hx2 : (x1 * x1 + k * 40692 + 3) % 2147483629 = x2 at z2
  have a := Int.emod_nonneg (x2 * x2 + k * 30269 + 5) (show (2147483587 : Int) ≠ 0 by decide)
  have b := Int.emod_lt_of_pos (x2 * x2 + k * 30269 + 5) (show (0 : Int) < 2147483587 by decide)
  refine ⟨(x2 * x2 + k * 30269 + 5) % 2147483587 / 64, ?_, by omega, by omega⟩
  have d64 : ∀ x : Int, idiv x 64 = .ok (x / 64) := fun x => idiv_ok (lit_div (by decide) (by decide +kernel))
  have i1 : ∀ x : Int, imod x 2147483647 = .ok (x % 2147483647) := fun x => imod_ok (by decide)
  have i2 : ∀ x : Int, imod x 2147483629 = .ok (x % 2147483629) := fun x => imod_ok (by decide)
  have i3 : ∀ x : Int, imod x 2147483587 = .ok (x % 2147483587) := fun x => imod_ok (by decide)
  simp only [p__law_mixed, m1, m2, m4, m6, rb_ok, i1, i2, i3, on_ok, hx1, sq _ z1, hx2, sq _ z2, d64, rn_rt]
theorem wide_ok {c k m : Int} (zc : Sz 2000000 c) (k0 : 0 ≤ k) (k1 : k ≤ 5000) : ∃ v : Int, p__law_wide c k m = .ok v := by
  have zk : ∀ x : Int, 0 ≤ x → x ≤ 10000 → Sz 1000 x := fun x h1 h2 => Sz.mono (n := 20) (by unfold Sz; omega) (by decide)
  obtain ⟨v1, e1, a1, b1⟩ := mixed_ok zc (zk k (by omega) (by omega))
  obtain ⟨v2, e2, a2, b2⟩ := mixed_ok zc (zk (k + 100) (by omega) (by omega))
  have sh : ishl 1 45 = .ok 35184372088832 := ishl_ok (by decide +kernel)
  have r26 : irange2 2 6 = .ok (rng 2 4) := irange2_ok (by decide) (by decide) (by decide) (by decide)
  have mm : ∀ x : Int, Sz 10000 x → imul x 33554432 = .ok (x * 33554432) := fun x zx => imul_ok (mul_ok (m := 100) zx (Sz.lit (by decide)) (by decide))
  have zv1 : Sz 40 v1 := by unfold Sz; omega
  have zn : Sz 200 (v1 * 33554432 + v2) := Sz.mono (n := 141) (Sz.add (n := 140) (Sz.mul (m := 100) zv1 (Sz.lit (by decide))) (Sz.mono (n := 40) (by unfold Sz; omega) (by decide))) (by decide)
  unfold p__law_wide
  simp only [e1, e2, mm v1 (zv1.mono (by decide)), rb_ok, on_ok, sh]
  split
  · rw [r26, on_ok]
    refine for_idx (fun t => ∃ v : Int, tRun t = .ok v) (fun i s => Sz (200 + 200 * i) s) zn (fun i x s hx hs => ?_) fun s _ => ⟨s, rfl⟩
    obtain ⟨hi, rfl⟩ := rng_some hx
    obtain ⟨v, ev, a, b⟩ := mixed_ok zc (zk (k + 100 * (2 + (i : Int))) (by omega) (by omega))
    have m1 : imul 100 (2 + (i : Int)) = .ok (100 * (2 + (i : Int))) := imul_ok (mul_ok (n := 20) (m := 20) (Sz.lit (by decide)) (by unfold Sz; omega) (by decide))
    refine ⟨s * 33554432 + v, .inl ?_, ?_⟩
    · simp only [mm s (hs.mono (by omega)), m1, rb_ok, ev, on_ok]
    · exact Sz.mono (Sz.add (n := 200 + 200 * i + 100) (Sz.mul (m := 100) hs (Sz.lit (by decide))) (Sz.mono (n := 40) (by unfold Sz; omega) (by omega))) (by omega)
  · exact ⟨_, rfl⟩
theorem poly_ok {c m : Int} {n : Nat} (zc : Sz 1048576 c) (hn : n ≤ 1024) (m1 : 1 ≤ m) (m2 : m ≤ 1099511627776) : ∃ row : List Int, p__law_poly c n m = .ok row ∧ row.length = n ∧ ∀ x ∈ row, -m ≤ x ∧ x ≤ m := by
  have pw : ipow 10 18 = .ok 1000000000000000000 := ipow_ok (by decide +kernel)
  have rn : irange (n : Int) = .ok (rng 0 n) := irange_ok (by omega)
  have mm : imul 2 m = .ok (2 * m) := imul_ok (mul_ok (n := 2) (m := 60) (Sz.lit (by decide)) (by unfold Sz; omega) (by decide))
  have im : ∀ x : Int, imod x (2 * m + 1) = .ok (x % (2 * m + 1)) := fun x => imod_ok (by omega)
  have di : ∀ x : Int, idiv x (2 * m + 1) = .ok (x / (2 * m + 1)) := fun x => idiv_ok (div_ok (by omega) (Sz.mono (n := 60) (by unfold Sz; omega) (by decide)))
  have md : ∀ x : Int, -m ≤ x % (2 * m + 1) - m ∧ x % (2 * m + 1) - m ≤ m := fun x => by
    have a := Int.emod_nonneg x (show 2 * m + 1 ≠ 0 by omega)
    have b := Int.emod_lt_of_pos x (show 0 < 2 * m + 1 by omega)
    omega
  unfold p__law_poly
  simp only [on_ok, pw, rb_ok, rn]
  refine for_idx (fun t => ∃ row : List Int, tRun t = .ok row ∧ row.length = n ∧ ∀ x ∈ row, -m ≤ x ∧ x ≤ m) (fun i (s : Int × List Int) => s.2.length = i ∧ ∀ x ∈ s.2, -m ≤ x ∧ x ≤ m) ⟨rfl, by simp⟩ (fun i x s hx hs => ?_) fun s hs => ⟨s.2, rfl, by simpa using hs.1, hs.2⟩
  obtain ⟨hi, rfl⟩ := rng_some hx
  obtain ⟨left, row⟩ := s
  obtain ⟨hl, hb⟩ := hs
  have ap : ∀ v : Int, lapp row v = .ok (row ++ [v]) := fun v => lapp_ok (by simp at hl; omega)
  have bd : ∀ v : Int, -m ≤ v ∧ v ≤ m → ∀ x ∈ row ++ [v], -m ≤ x ∧ x ≤ m := fun v hv x hx => by
    rcases List.mem_append.mp hx with h | h
    · exact hb x h
    · obtain rfl : x = v := by simpa using h
      exact hv
  by_cases hc : (decide (iabs c ≥ (1000000000000000000 : Int)) && (decide (left > (0 : Int)))) = true
  · refine ⟨(left / (2 * m + 1), row ++ [left % (2 * m + 1) - m]), .inl ?_, ?_⟩
    · simp only [hc, if_true, mm, rb_ok, im, on_ok, ap, di]
    · exact ⟨by simp at hl ⊢; omega, bd _ (md left)⟩
  · obtain ⟨v, ev⟩ := wide_ok (c := c) (k := 0 + (i : Int)) (m := m) (zc.mono (by decide)) (by omega) (by omega)
    refine ⟨(left, row ++ [v % (2 * m + 1) - m]), .inl ?_, ?_⟩
    · simp only [hc, if_false, ev, mm, rb_ok, im, on_ok, ap, Bool.false_eq_true]
    · exact ⟨by simp at hl ⊢; omega, bd _ (md v)⟩
theorem cell_ok (ns : List Int) (k : Nat) : p__law_cell ns (k : Int) = .ok (cell ns k) := by
  unfold p__law_cell cell ilen
  by_cases h : k < ns.length
  · rw [if_pos (by simpa using h)]
    have e : ns[k]? = some (ns[k]) := List.getElem?_eq_getElem h
    rw [ix_ok e, e]
    rfl
  · rw [if_neg (by simpa using h), List.getElem?_eq_none (by omega)]
    rfl
theorem mod_nat (x : Int) {m : Nat} (hm : 0 < m) : ∃ r : Nat, x % (m : Int) = r ∧ r < m := by
  have a := Int.emod_nonneg x (show (m : Int) ≠ 0 by omega)
  have b := Int.emod_lt_of_pos x (show 0 < (m : Int) by omega)
  exact ⟨(x % m).toNat, by omega, by omega⟩
theorem cm_ok {k : Int} (h : 1 ≤ k) : p_check_modulus k = .ok () := by
  unfold p_check_modulus
  rw [decide_eq_false (by omega)]; rfl
theorem cm_ex {k : Int} (h : k < 1) : p_check_modulus k = .exc .range := by
  unfold p_check_modulus
  rw [decide_eq_true h]; rfl
theorem centred_ok (a : Int) {k : Int} (h : 1 ≤ k) : p_centred a k = .ok (cen a k) := by
  have d : idiv k 2 = .ok (k / 2) := idiv_ok (div2 _)
  have m : ∀ x, imod x k = .ok (x % k) := fun x => imod_ok (by omega)
  simp only [p_centred, cm_ok h, on_ok, d, rb_ok, m, cen, rn_rt]
def rdv (a b : Int) : Int := (2 * a + b) / (2 * b)
theorem rounddiv_ok {a b : Int} (h : 1 ≤ b) {s : Nat} (za : Sz s a) (zb : Sz 8000 b) (hs : s ≤ 10000000) : p_round_div a b = .ok (rdv a b) := by
  have m1 : imul 2 a = .ok (2 * a) := imul_ok (mul_ok (n := 2) (Sz.lit (by decide)) za (by omega))
  have zb2 : Sz 8002 (2 * b) := (Sz.mul (n := 2) (Sz.lit (by decide)) zb).mono (by decide)
  have m2 : imul 2 b = .ok (2 * b) := imul_ok (mul_ok (n := 2) (Sz.lit (by decide)) zb (by decide))
  have d : ∀ x, idiv x (2 * b) = .ok (x / (2 * b)) := fun x => idiv_ok (div_ok (by omega) (zb2.mono (by decide)))
  simp only [p_round_div, cm_ok h, on_ok, m1, m2, rb_ok, d, rdv, rn_rt]
theorem cd_ok {b c : Int} (h : 3 ≤ b) (c0 : 0 ≤ c) (c1 : c ≤ 4096) : p_check_digits b c = .ok () := by
  unfold p_check_digits
  rw [decide_eq_false (by omega), decide_eq_true (by omega), decide_eq_true (by omega)]; rfl
theorem cd_ex {b c : Int} (h : b < 3 ∨ c < 0 ∨ 4096 < c) : p_check_digits b c = .exc .range := by
  unfold p_check_digits
  by_cases h3 : b < 3
  · rw [decide_eq_true h3]; rfl
  · rw [decide_eq_false h3]
    have : (!(decide (0 ≤ c) && decide (c ≤ 4096))) = true := by
      rcases h with h | h | h
      · exact absurd h h3
      · rw [decide_eq_false (by omega)]; rfl
      · rw [decide_eq_false (p := c ≤ 4096) (by omega), Bool.and_false]; rfl
    rw [this]; rfl
theorem digits_ok (v : Int) {b : Int} (h : 3 ≤ b) (zb : Sz 8000 b) {n : Nat} (hn : n ≤ 4096) : p_digits v b n = .ok (digs b n v) := by
  have r1 : irange (n : Int) = .ok (rng 0 n) := irange_ok (by omega)
  have d : ∀ x, idiv x b = .ok (x / b) := fun x => idiv_ok (div_ok (by omega) (zb.mono (by decide)))
  unfold p_digits
  simp only [cd_ok h (by omega) (by omega : (n : Int) ≤ 4096), on_ok, r1]
  refine for_idx (fun t => tRun t = .ok (digs b n v)) (fun i s => s.2.length = i ∧ (s.2 ++ (digs b (n - i) s.1).1, (digs b (n - i) s.1).2) = digs b n v) ⟨rfl, rfl⟩ (fun i x s hx hs => ?_) (fun s hs => ?_)
  · obtain ⟨hi, rfl⟩ := rng_some hx
    obtain ⟨w, l⟩ := s
    obtain ⟨hl, he⟩ := hs
    have ap : lapp l (cen w b) = .ok (l ++ [cen w b]) := lapp_ok (by simp at hl; omega)
    refine ⟨((w - cen w b) / b, l ++ [cen w b]), .inl ?_, ?_, ?_⟩
    · simp only [centred_ok w (show 1 ≤ b by omega), on_ok, ap, d]
    · simp at hl ⊢; omega
    · rw [← he, show n - i = n - (i + 1) + 1 by omega]
      simp [digs]
  · obtain ⟨w, l⟩ := s
    obtain ⟨hl, he⟩ := hs
    rw [rng_len, Nat.sub_self] at he
    simp [digs] at he
    simp [he]
theorem cells (ns : List Int) (k : Nat) : p__law_cell ns (OfNat.ofNat k : Nat) = .ok (cell ns k) := cell_ok ns k
section
variable {e : Nat} {a b : List Int}
theorem Pl.ne (h : Pl e a) : a ≠ [] := fun q => by
  have := h.pos
  rw [q] at this
  exact absurd this (by decide)
theorem abs_map (h : Pl e a) : cmap (fun (x : Int) => iabs x) a = .ok (a.map iabs) := cmap_ok (by have := h.le; omega)
theorem abs_max (h : Pl e a) : imaxL (a.map iabs) = .ok (nm a) := imaxL_ok (by simpa using h.ne)
theorem norm_ok (h : Pl e a) : p_norm a = .ok (nm a) := by simp [p_norm, h.cs, abs_map h, abs_max h]
theorem norm1_ok (h : Pl e a) : p_norm_one a = .ok (n1 a) := by simp [p_norm_one, h.cs, abs_map h, n1_sum]
theorem nm_nn (h : Pl e a) : 0 ≤ nm a := Int.le_trans (iabs_nn _) (nm_nb h.ne 0 h.pos)
theorem sizes_ok (h : Pl e a) (hb : Pl e b) {m : Int} (ma : Nb a m) (mb : Nb b m) (hm : m ≤ 1099511627776) {k : Int} (zk : Sz 1048576 k) : p__law_sizes a b k = .ok true := by
  have hn := h.pos
  have hl : b.length = a.length := hb.1.trans h.1.symm
  have l := h.le
  have o1 : Sz 1048580 (1 : Int) := Sz.mono (Sz.lit (n := 1) (by decide)) (by decide)
  have m0 : 0 ≤ m := Int.le_trans (iabs_nn _) (ma 0 hn)
  have n1a : n1 a ≤ a.length * m := n1_nb ma
  have q0 : (a.length : Int) * m ≤ 1024 * 1099511627776 := Int.le_trans (Int.mul_le_mul_of_nonneg_right (by omega : (a.length : Int) ≤ 1024) m0) (by omega)
  have p0 := n1_nn a
  have nma : nm a ≤ m := (nm_le h.ne).mpr ma
  have nmb : nm b ≤ m := (nm_le hb.ne).mpr mb
  have n1b : n1 b ≤ b.length * m := n1_nb mb
  rw [hl] at n1b
  have p1 := n1_nn b
  have p2 := nm_nn h
  have p3 := nm_nn hb
  have s1 : Sz 60 (n1 a) := by unfold Sz; omega
  have s2 : Sz 60 (nm b) := by unfold Sz; omega
  have s3 : Sz 60 (nm a) := by unfold Sz; omega
  have s4 : Sz 60 (n1 b) := by unfold Sz; omega
  have m2 : imul 2 k = .ok (2 * k) := imul_ok (mul_ok (n := 2) (Sz.lit (by decide)) zk (by decide))
  have zt : Sz 1048581 (2 * k + 1) := Sz.add (n := 1048580) ((Sz.mul (n := 2) (Sz.lit (by decide)) zk).mono (by decide)) o1
  have sh := shift_ok h k
  have tu := turn_ok h (t := 2 * k + 1) (by omega) zt (by decide)
  have hs : Pl e (nshift a k) := h.of nshift_len
  have ht : Pl e (nturn a (2 * k + 1)) := h.of nturn_len
  have e1 : nm (nshift a k) = nm a := nm_eq hs.ne h.ne fun m => shift_nb hn
  have e2 : nm (nturn a (2 * k + 1)) = nm a := nm_eq ht.ne h.ne fun m => turn_nb h.1 (by omega)
  have e3 : n1 (nshift a k) = n1 a := shift_n1 hn k
  have e4 : n1 (nturn a (2 * k + 1)) = n1 a := turn_n1 h.1 (by omega)
  have za : ∀ x ∈ a, Sz 1000 x := fun x hx => (Sz.of_n1 s1 x hx).mono (by decide)
  have zb : ∀ x ∈ b, Sz 1000 x := fun x hx => (Sz.of_n1 s4 x hx).mono (by decide)
  have ti := times_ok h hb za zb
  have hp : Pl e (nmul a b) := h.of nmul_len
  have f1 : nm (nmul a b) ≤ n1 a * nm b := (nm_le hp.ne).mpr (mul_nb hn hl (nm_nb hb.ne))
  have f2 : n1 a ≤ a.length * nm a := n1_nb (nm_nb h.ne)
  have f3 : n1 (nmul a b) ≤ n1 a * n1 b := mul_n1 hn hl
  have i1 : imul (n1 a) (nm b) = .ok (n1 a * nm b) := imul_ok (mul_ok s1 s2 (by decide))
  have i2 : imul (ilen a) (nm a) = .ok (ilen a * nm a) := imul_ok (mul_ok (n := 20) (Sz_nat (by omega)) s3 (by decide))
  have i3 : imul (n1 a) (n1 b) = .ok (n1 a * n1 b) := imul_ok (mul_ok s1 s4 (by decide))
  unfold p__law_sizes
  simp only [abs_map h, abs_max h, n1_sum, norm_ok h, norm1_ok h, p__law_integer, rb_ok, on_ok, rn_rt, Bool.and_true, Bool.not_false, Bool.not_true, ro_ok2, decide_true, Bool.or_self, if_false, Bool.false_eq_true, sh, m2, tu]
  rw [tFor_all ?_]
  · simp only [tb_nx]
    split
    · rfl
    · have c1 : decide (nm (nmul a b) > n1 a * nm b) = false := decide_eq_false (by omega)
      have c2 : decide (n1 a > ilen a * nm a) = false := decide_eq_false (by unfold ilen; omega)
      have c3 : decide (n1 (nmul a b) ≤ n1 a * n1 b) = true := decide_eq_true f3
      simp only [ti, on_ok, norm_ok hp, norm_ok hb, norm1_ok hp, norm1_ok hb, rb_ok, i1, i2, i3, c1, c2, c3, ro_ok2, Bool.or_self, if_false, Bool.false_eq_true, rn_rt]
  · intro x hx
    left
    simp only [List.mem_cons, List.not_mem_nil, or_false] at hx
    rcases hx with rfl | rfl
    · simp only [norm_ok hs, norm1_ok hs, e1, e3, rb_ok, decide_true, Bool.not_true, ro_ok2, on_ok, Bool.or_self, if_false, Bool.false_eq_true]
    · simp only [norm_ok ht, norm1_ok ht, e2, e4, rb_ok, decide_true, Bool.not_true, ro_ok2, on_ok, Bool.or_self, if_false, Bool.false_eq_true]
/-! the worst partner -/
def wix (n place p : Nat) : Nat := if p ≤ place then place - p else place + n - p
def wv (a : List Int) (place : Nat) (s : Int) (p : Nat) : Int := if p ≤ place then (if 0 ≤ at0 a (place - p) then s else -s) else (if 0 < at0 a (place + a.length - p) then -s else s)
def wp (a : List Int) (place : Nat) (s : Int) : List Int := tab a.length (wv a place s)
def wst (a : List Int) (place : Nat) (s : Int) (m : Nat) : List Int := tab a.length fun p => if wix a.length place p < m then wv a place s p else s
@[simp] theorem wst_len {a : List Int} {place m : Nat} {s : Int} : (wst a place s m).length = a.length := tab_len
theorem wst_zero {place : Nat} {s : Int} : wst a place s 0 = List.replicate a.length s := by
  rw [rep_tab]
  exact tab_congr fun p _ => if_neg (by omega)
theorem wst_end {place : Nat} (hp : place < a.length) {s : Int} : wst a place s a.length = wp a place s :=
  tab_congr fun p hq => if_pos (by unfold wix; split <;> omega)
theorem wst_set {place m : Nat} (hp : place < a.length) (hm : m < a.length) {s : Int} {j : Nat} (hj : j = if m ≤ place then place - m else place + a.length - m) : (wst a place s m).set j (wv a place s j) = wst a place s (m + 1) := by
  unfold wst
  rw [tab_set]
  refine tab_congr fun p hq => ?_
  have w : wix a.length place p = m ↔ p = j := by unfold wix; subst hj; split <;> split <;> omega
  by_cases e1 : p = j
  · rw [if_pos e1, if_pos (by rw [w.mpr e1]; omega), e1]
  · have : wix a.length place p ≠ m := fun q => e1 (w.mp q)
    rw [if_neg e1]
    by_cases e2 : wix a.length place p < m
    · rw [if_pos e2, if_pos (by omega)]
    · rw [if_neg e2, if_neg (by omega)]
theorem wst_skip {place m : Nat} (hp : place < a.length) (hm : m < a.length) {s : Int} (hz : at0 a m = 0) : wst a place s m = wst a place s (m + 1) := by
  unfold wst
  refine tab_congr fun p hq => ?_
  by_cases e2 : wix a.length place p < m
  · rw [if_pos e2, if_pos (by omega)]
  · rw [if_neg e2]
    by_cases e3 : wix a.length place p = m
    · rw [if_pos (by omega)]
      unfold wv
      unfold wix at e3
      by_cases c : p ≤ place
      · rw [if_pos c] at e3 ⊢
        rw [e3, hz, if_pos (by decide)]
      · rw [if_neg c] at e3 ⊢
        rw [e3, hz, if_neg (by decide)]
    · rw [if_neg (by omega)]
theorem wv_lo {place m : Nat} {s : Int} (h : m ≤ place) : wv a place s (place - m) = if 0 ≤ at0 a m then s else -s := by
  unfold wv
  rw [if_pos (by omega), show place - (place - m) = m by omega]
theorem wv_hi {place m : Nat} {s : Int} (h : place < m) (hm : m < a.length) : wv a place s (place + a.length - m) = if 0 < at0 a m then -s else s := by
  unfold wv
  rw [if_neg (by omega), show place + a.length - (place + a.length - m) = m by omega]
theorem partner_ok (h : Pl e a) {place : Nat} (hp : place < a.length) {s : Int} (s0 : 0 ≤ s) (zs : Sz 100 s) : p_worst_partner a place s = .ok (wp a place s) := by
  have hn := h.pos
  have l := h.le
  have hr : lrep [s] (ilen a) = .ok (List.replicate a.length s) := lrep1_ok (by omega)
  have c1 : (!(decide ((0 : Int) ≤ place) && decide ((place : Int) < ilen a))) = false := by
    rw [decide_eq_true (by omega), decide_eq_true (by unfold ilen; omega)]; rfl
  have c2 : decide (s < 0) = false := decide_eq_false (by omega)
  have sg : ∀ x : Int, x = 1 ∨ x = -1 → imul x s = .ok (x * s) := fun x hx => imul_ok (mul_ok (n := 2) (by rcases hx with rfl | rfl <;> exact Sz.lit (by decide)) zs (by decide))
  unfold p_worst_partner
  simp only [h.cs, on_ok, c1, c2, hr, Bool.false_eq_true, if_false]
  rw [tFor_st (fun i => wst a place s i) wst_zero.symm ?_]
  · simp [wst_end hp]
  · intro m x hx
    left
    obtain ⟨h1, h2⟩ := enum_some hx
    have hm := (List.getElem?_eq_some_iff.mp h1).1
    have e1 := at0_some h1
    rw [Nat.zero_add] at h2
    simp only [on_ok, h2]
    rw [← e1]
    by_cases c : m ≤ place
    · have d1 : decide ((place : Int) - m ≥ 0) = true := decide_eq_true (by omega)
      have st := wst_set (s := s) hp hm (j := place - m) (by rw [if_pos c])
      rw [wv_lo c] at st
      have ix1 : (place : Int) - m = ((place - m : Nat) : Int) := by omega
      have se : ∀ v, setI (wst a place s m) ((place : Int) - m) v = .ok ((wst a place s m).set (place - m) v) := fun v => by rw [ix1]; exact setI_ok (by simp; omega)
      by_cases c3 : 0 ≤ at0 a m
      · rw [if_pos c3] at st
        simp only [d1, if_true, decide_eq_true c3, ge_iff_le, sg 1 (.inl rfl), rb_ok, se, on_ok, Int.one_mul, st]
      · rw [if_neg c3] at st
        simp only [d1, if_true, decide_eq_false c3, Bool.false_eq_true, if_false, ge_iff_le, sg (-1) (.inr rfl), rb_ok, se, on_ok, Int.neg_mul, Int.one_mul, st]
    · have d1 : decide ((place : Int) - m ≥ 0) = false := decide_eq_false (by omega)
      have st := wst_set (s := s) hp hm (j := place + a.length - m) (by rw [if_neg c])
      rw [wv_hi (by omega) hm] at st
      have ix1 : (place : Int) - m + ilen a = ((place + a.length - m : Nat) : Int) := by unfold ilen; omega
      have se : ∀ v, setI (wst a place s m) ((place : Int) - m + ilen a) v = .ok ((wst a place s m).set (place + a.length - m) v) := fun v => by rw [ix1]; exact setI_ok (by simp; omega)
      by_cases c3 : at0 a m = 0
      · simp only [d1, Bool.false_eq_true, if_false, decide_eq_true c3, Bool.not_true, wst_skip hp hm c3]
      · by_cases c4 : 0 < at0 a m
        · rw [if_pos c4] at st
          have c5 : 0 ≤ at0 a m := by omega
          simp only [d1, Bool.false_eq_true, if_false, decide_eq_false c3, Bool.not_false, if_true, decide_eq_true c5, ge_iff_le, sg (-1) (.inr rfl), rb_ok, se, on_ok, Int.neg_mul, Int.one_mul, st]
        · rw [if_neg c4] at st
          have c5 : ¬ 0 ≤ at0 a m := by omega
          simp only [d1, Bool.false_eq_true, if_false, decide_eq_false c3, Bool.not_false, if_true, decide_eq_false c5, ge_iff_le, Int.neg_neg, sg 1 (.inl rfl), rb_ok, se, on_ok, Int.one_mul, st]
theorem lpartner_ok (h : Pl e a) {place : Nat} (hp : place < a.length) {s : Int} (zs : Sz 100 s) : p__law_partner a place s = .ok (wp a place s) := by
  have hn := h.pos
  have l := h.le
  have hr : cmap (fun (_ : Int) => s) a = .ok (List.replicate a.length s) := by rw [cmap_ok (by omega), map_tab, rep_tab]
  have r1 : irange (ilen a) = .ok (rng 0 a.length) := irange_ok (by omega)
  have sg : ∀ x : Int, x = 1 ∨ x = -1 → imul x s = .ok (x * s) := fun x hx => imul_ok (mul_ok (n := 2) (by rcases hx with rfl | rfl <;> exact Sz.lit (by decide)) zs (by decide))
  unfold p__law_partner
  simp only [on_ok, hr, r1]
  rw [tFor_st (fun i => wst a place s i) wst_zero.symm ?_]
  · simp [wst_end hp]
  · intro m x hx
    left
    obtain ⟨hm, rfl⟩ := rng_some hx
    have ga : ix a (0 + (m : Int)) = .ok (at0 a m) := by rw [Int.zero_add]; exact ix_ok (get_at0 hm)
    have im : ∃ j : Nat, imod ((place : Int) - (0 + (m : Int))) (ilen a) = .ok (j : Int) ∧ j = if m ≤ place then place - m else place + a.length - m := by
      refine ⟨_, ?_, rfl⟩
      rw [imod_ok (by unfold ilen; omega), Int.zero_add]
      congr 1
      unfold ilen
      split
      · rw [Int.emod_eq_of_lt (by omega) (by omega)]; omega
      · rw [show (place : Int) - m = (place + a.length - m) + a.length * (-1) by omega, Int.add_mul_emod_self_left, Int.emod_eq_of_lt (by omega) (by omega)]; omega
    obtain ⟨j, im, hj⟩ := im
    have st := wst_set (s := s) hp hm hj
    have se : ∀ v, setI (wst a place s m) (j : Int) v = .ok ((wst a place s m).set j v) := fun v => setI_ok (by simp; subst hj; split <;> omega)
    simp only [ga, rb_ok, on_ok, im, se]
    by_cases c3 : at0 a m = 0
    · simp only [c3, decide_true, Bool.not_true, Bool.false_eq_true, if_false, wst_skip hp hm c3]
      split <;> simp
    · have d3 : (!decide (at0 a m = 0)) = true := by rw [decide_eq_false c3]; rfl
      simp only [d3, if_true]
      by_cases c : m ≤ place
      · rw [if_pos c] at hj
        subst hj
        rw [wv_lo c] at st
        have d1 : decide ((place : Int) - (0 + (m : Int)) < 0) = false := decide_eq_false (by omega)
        simp only [d1, Bool.false_eq_true, if_false, tb_nx]
        by_cases c4 : at0 a m < 0
        · rw [if_neg (by omega)] at st
          simp only [decide_eq_true c4, if_true, tb_nx, sg (-1) (.inr rfl), rb_ok, se, on_ok, Int.neg_mul, Int.one_mul, st]
        · rw [if_pos (by omega)] at st
          simp only [decide_eq_false c4, if_false, Bool.false_eq_true, tb_nx, sg 1 (.inl rfl), rb_ok, se, on_ok, Int.one_mul, st]
      · rw [if_neg c] at hj
        subst hj
        rw [wv_hi (by omega) hm] at st
        have d1 : decide ((place : Int) - (0 + (m : Int)) < 0) = true := decide_eq_true (by omega)
        simp only [d1, if_true, tb_nx]
        by_cases c4 : at0 a m < 0
        · rw [if_neg (by omega)] at st
          simp only [decide_eq_true c4, if_true, tb_nx, Int.neg_neg, sg 1 (.inl rfl), rb_ok, se, on_ok, Int.one_mul, st]
        · rw [if_pos (by omega)] at st
          simp only [decide_eq_false c4, if_false, Bool.false_eq_true, tb_nx, sg (-1) (.inr rfl), rb_ok, se, on_ok, Int.neg_mul, Int.one_mul, st]
theorem wp_nb {place : Nat} {s : Int} (s0 : 0 ≤ s) : Nb (wp a place s) s := fun i hi => by
  have hi : i < a.length := by simpa [wp] using hi
  unfold wp
  rw [tab_at hi]
  unfold wv
  rw [iabs_le]
  split <;> split <;> omega
theorem wp_at (h : 0 < a.length) {place : Nat} (hp : place < a.length) {s : Int} : at0 (nmul a (wp a place s)) place = n1 a * s := by
  have hl : (wp a place s).length = a.length := tab_len
  rw [← co_at (by simpa using hp), co_nmul h hl]
  unfold n1
  rw [← sm_mulr]
  refine sm_congr fun i hi => ?_
  by_cases c : i ≤ place
  · rw [show (place : Int) - i = ((place - i : Nat) : Int) by omega, co_at (by omega)]
    unfold wp
    rw [tab_at (by omega), wv_lo c]
    unfold iabs
    split
    · rw [if_neg (by omega)]
    · rw [if_pos (by omega), Int.mul_neg, Int.neg_mul]
  · have q := co_add (a := wp a place s) (by omega) ((place : Int) - i)
    rw [hl, show (place : Int) - i + a.length = ((place + a.length - i : Nat) : Int) by omega, co_at (by omega)] at q
    have q2 : co (wp a place s) ((place : Int) - i) = -at0 (wp a place s) (place + a.length - i) := by omega
    rw [q2]
    unfold wp
    rw [tab_at (by omega), wv_hi (by omega) hi]
    unfold iabs
    split
    · rw [if_neg (by omega), Int.neg_neg]
    · by_cases z : at0 a i = 0
      · rw [z]; simp
      · rw [if_pos (by omega), Int.mul_neg, Int.neg_mul]
theorem wp_nm (h : Pl e a) {place : Nat} (hp : place < a.length) {s : Int} (s0 : 0 ≤ s) : nm (nmul a (wp a place s)) = n1 a * s := by
  have hn := h.pos
  have hl : (wp a place s).length = a.length := tab_len
  have hq : Pl e (nmul a (wp a place s)) := h.of nmul_len
  refine Int.le_antisymm ((nm_le hq.ne).mpr (mul_nb hn hl (wp_nb s0))) ?_
  have q := nm_nb hq.ne place (by simpa using hp)
  rw [wp_at hn hp, iabs_of_nn (Int.mul_nonneg (n1_nn a) s0)] at q
  exact q
end
section
variable {e : Nat} {a b : List Int}
theorem residues_ok (h : Pl e a) {k : Int} (k1 : 1 ≤ k) : p_residues a k = .ok (a.map fun x => x % k) := by
  have l := h.le
  have c : cmapE (fun (x : Int) => (imod x k)) a = .ok (a.map fun x => x % k) := cmapE_ok (by omega) fun x _ => imod_ok (by omega)
  simp only [p_residues, h.cs, cm_ok k1, on_ok, c, rn_rt]
theorem centre_ok (h : Pl e a) {k : Int} (k1 : 1 ≤ k) : p_centre a k = .ok (a.map fun x => cen x k) := by
  have l := h.le
  have c : cmapE (fun (x : Int) => (p_centred x k)) a = .ok (a.map fun x => cen x k) := cmapE_ok (by omega) fun x _ => centred_ok x k1
  simp only [p_centre, h.cs, cm_ok k1, on_ok, c, rn_rt]
theorem divide_ok (h : Pl e a) {f k : Int} (k1 : 1 ≤ k) (zk : Sz 1000 k) (zf : Sz 1000 f) (za : ∀ x ∈ a, Sz 60 x) : p_divide a f k = .ok (a.map fun x => rdv (f * x) k) := by
  have l := h.le
  have c : cmapE (fun (x : Int) => (Res.bind (imul f x) fun v => (p_round_div v k))) a = .ok (a.map fun x => rdv (f * x) k) := cmapE_ok (by omega) fun x hx => by
    rw [imul_ok (mul_ok zf (za x hx) (by decide)), rb_ok]
    exact rounddiv_ok k1 (Sz.mul zf (za x hx)) (zk.mono (by decide)) (by decide)
  simp only [p_divide, h.cs, cm_ok k1, on_ok, c, rn_rt]
def splt (b : Int) (n : Nat) (a : List Int) : List (List Int) × List Int := ((rng 0 n).map fun j => a.map fun x => at0 (digs b n x).1 j.toNat, a.map fun x => (digs b n x).2)
theorem digs_map (h : Pl e a) {n : Nat} (hn : n ≤ 4096) {b : Int} (hb : 3 ≤ b) (zb : Sz 8000 b) : cmapE (fun (x : Int) => (p_digits x b n)) a = .ok (a.map fun x => digs b n x) := by
  have l := h.le
  exact cmapE_ok (by omega) fun x _ => digits_ok x hb zb hn
theorem digs_col (h : Pl e a) {n : Nat} {b : Int} {j : Int} (hj : j ∈ rng 0 n) : cmapE (fun (x : List Int × Int) => (ix x.1 j)) (a.map fun x => digs b n x) = .ok (a.map fun x => at0 (digs b n x).1 j.toNat) := by
  have l := h.le
  have hj' := rng_mem.mp hj
  rw [cmapE_ok (g := fun r => at0 r.1 j.toNat) (by simp; omega) fun r hr => ?_]
  · rw [List.map_map]; rfl
  · obtain ⟨x, _, rfl⟩ := List.mem_map.mp hr
    exact ix_int (by omega) (get_at0 (by rw [digs_len]; omega))
theorem split_ok (h : Pl e a) {n : Nat} (hn : n ≤ 4096) {b : Int} (hb : 3 ≤ b) (zb : Sz 8000 b) : p_split a b n = .ok (splt b n a) := by
  have l := h.le
  have r1 : irange (n : Int) = .ok (rng 0 n) := irange_ok (by omega)
  have c1 : cmapE (fun (x : Int) => (cmapE (fun (y : List Int × Int) => (ix y.1 x)) (a.map fun x => digs b n x))) (rng 0 n) = .ok ((rng 0 n).map fun j => a.map fun x => at0 (digs b n x).1 j.toNat) := cmapE_ok (by simp; omega) fun j hj => digs_col h hj
  have c2 : cmap (fun (x : List Int × Int) => x.2) (a.map fun x => digs b n x) = .ok (a.map fun x => (digs b n x).2) := by
    rw [cmap_ok (by simp; omega), List.map_map]; rfl
  simp only [p_split, h.cs, cd_ok hb (by omega) (by omega : (n : Int) ≤ 4096), on_ok, digs_map h hn hb zb, r1, rb_ok, c1, c2, rn_rt]
  rfl
theorem items_ok (h : Pl e a) (za : ∀ x ∈ a, Sz 60 x) {k b : Int} {n : Nat} (k1 : 1 ≤ k) (zk : Sz 100 k) (hb : 3 ≤ b) (zb : Sz 20 b) (hn : n ≤ 8) : p__law_items a k b n = .ok true := by
  have l := h.le
  have zk' : Sz 1000 k := zk.mono (by decide)
  have m1 : imul b b = .ok (b * b) := imul_ok (mul_ok zb zb (by decide))
  have i6 : imod b 6 = .ok (b % 6) := imod_ok (by decide)
  obtain ⟨r, hr, lr⟩ := mod_nat b (m := 6) (by decide)
  have hr' : b % 6 = (r : Int) := hr
  obtain ⟨f, hf, zf⟩ : ∃ f, ix ([(7 : Int), (0 : Int), (-(1 : Int)), (1 : Int), ((0 : Int) - b), (b * b + k)] : List Int) (r : Int) = .ok f ∧ Sz 1000 f := by
    have zs : ∀ z : Int, Sz 3 z → Sz 1000 z := fun z hz => hz.mono (by decide)
    have c : r = 0 ∨ r = 1 ∨ r = 2 ∨ r = 3 ∨ r = 4 ∨ r = 5 := by omega
    rcases c with rfl | rfl | rfl | rfl | rfl | rfl
    · exact ⟨7, ix_ok rfl, zs _ (Sz.lit (by decide))⟩
    · exact ⟨0, ix_ok rfl, zs _ (Sz.lit (by decide))⟩
    · exact ⟨-1, ix_ok rfl, zs _ (Sz.lit (by decide))⟩
    · exact ⟨1, ix_ok rfl, zs _ (Sz.lit (by decide))⟩
    · exact ⟨0 - b, ix_ok rfl, (Sz.sub (Sz.mono (n := 1) (Sz.lit (by decide)) (by decide)) zb).mono (by decide)⟩
    · exact ⟨b * b + k, ix_ok rfl, (Sz.add (n := 100) ((Sz.mul zb zb).mono (by decide)) zk).mono (by decide)⟩
  have n0 : (n : Int) ≤ 4096 := by omega
  have r1 : irange (n : Int) = .ok (rng 0 n) := irange_ok (by omega)
  have hb8 : Sz 8000 b := zb.mono (by decide)
  have hn2 : n ≤ 4096 := by omega
  have c1 : cmapE (fun (x : Int) => (p_residue x k)) a = .ok (a.map fun x => x % k) := cmapE_ok (by omega) fun x _ => by
    have : imod x k = .ok (x % k) := imod_ok (by omega)
    simp only [p_residue, cm_ok k1, on_ok, this, rn_rt]
  have c2 : cmapE (fun (x : Int) => (p_centred x k)) a = .ok (a.map fun x => cen x k) := cmapE_ok (by omega) fun x _ => centred_ok x k1
  have c3 : cmapE (fun (x : Int) => (Res.bind (imul f x) fun v => (p_round_div v k))) a = .ok (a.map fun x => rdv (f * x) k) := cmapE_ok (by omega) fun x hx => by
    rw [imul_ok (mul_ok zf (za x hx) (by decide)), rb_ok]
    exact rounddiv_ok k1 (Sz.mul zf (za x hx)) (zk.mono (by decide)) (by decide)
  have c4 : cmap (fun (x : List Int × Int) => x.2) (a.map fun x => digs b n x) = .ok (a.map fun x => (digs b n x).2) := by
    rw [cmap_ok (by simp; omega), List.map_map]; rfl
  have ls : ilen (splt b n a).1 = n := by unfold splt ilen; simp
  unfold p__law_items
  simp only [on_ok, residues_ok h k1, centre_ok h k1, c1, c2, rb_ok, is_list_self, Bool.not_true, Bool.false_eq_true, if_false, m1, i6, hr', hf, divide_ok h k1 zk' zf za, c3, split_ok h hn2 hb hb8, ls, decide_true, Bool.or_self, digs_map h hn2 hb hb8, r1]
  rw [tFor_all ?_]
  · simp only [tb_nx, c4, rb_ok]
    have : (splt b n a).2 = a.map fun x => (digs b n x).2 := rfl
    rw [this, is_list_self, ra_ok2]
    rfl
  · intro x hx
    left
    have hx' := rng_mem.mp hx
    have gi : ix (splt b n a).1 x = .ok (a.map fun y => at0 (digs b n y).1 x.toNat) := by
      refine ix_int (by omega) ?_
      unfold splt
      rw [List.getElem?_map, rng_get (by omega)]
      show some _ = some _
      rw [show (0 : Int) + (x.toNat : Int) = x by omega]
    simp only [gi, rb_ok, digs_col h hx, is_list_self, Bool.not_true, on_ok, Bool.false_eq_true, if_false]
end
/-! what is refused -/
theorem cs_ex {a : List Int} (h : szOk (ilen a) = false) : p_check_size (ilen a) = .exc .range := by rw [cs_eq, h]; rfl
section
variable {e : Nat} {a b : List Int}
theorem wp_ex (h : Pl e a) {x y : Int} (hx : x < 0 ∨ ilen a ≤ x ∨ y < 0) : p_worst_partner a x y = .exc .range := by
  unfold p_worst_partner
  simp only [h.cs, on_ok]
  by_cases c : (!(decide ((0 : Int) ≤ x) && decide (x < ilen a))) = true
  · rw [if_pos c]; rfl
  · rw [if_neg c]
    have : y < 0 := by
      rcases hx with hx | hx | hx
      · exfalso; exact c (by rw [decide_eq_false (by omega)]; rfl)
      · exfalso; exact c (by rw [decide_eq_false (p := x < ilen a) (by omega), Bool.and_false]; rfl)
      · exact hx
    rw [if_pos (decide_eq_true this)]; rfl
theorem centre_ex (h : Pl e a) {k : Int} (hk : k < 1) : p_centre a k = .exc .range := by simp only [p_centre, h.cs, on_ok, cm_ex hk, on_ex, rn_ex]
theorem residues_ex (h : Pl e a) {k : Int} (hk : k < 1) : p_residues a k = .exc .range := by simp only [p_residues, h.cs, on_ok, cm_ex hk, on_ex, rn_ex]
theorem divide_ex (h : Pl e a) {f k : Int} (hk : k < 1) : p_divide a f k = .exc .range := by simp only [p_divide, h.cs, on_ok, cm_ex hk, on_ex, rn_ex]
theorem split_ex (h : Pl e a) {x y : Int} (hx : x < 3 ∨ y < 0 ∨ 4096 < y) : p_split a x y = .exc .range := by simp only [p_split, h.cs, on_ok, cd_ex hx, on_ex, rn_ex]
theorem ev_ex0 : p_evaluate [] a = .exc .range := by simp [p_evaluate, ilen]
theorem ev_ex2 (h : Pl e a) : p_evaluate [a ++ a] a = .exc .range := by
  have hn := h.pos
  have hz : Pl e (List.replicate a.length (0 : Int)) := h.of (by simp)
  have z : ∀ x ∈ a, True := fun _ _ => trivial
  have pe : p_check_pair (List.replicate a.length (0 : Int)) (a ++ a) = .exc .range := by
    have ne : ilen (List.replicate a.length (0 : Int)) ≠ ilen (a ++ a) := by unfold ilen; simp; omega
    simp only [p_check_pair, hz.cs, on_ok, decide_eq_false ne, Bool.not_false, if_true, rf_ex]
  have mu : ∃ r, p_multiply (List.replicate a.length (0 : Int)) a = .ok r ∧ r.length = a.length := by
    have hr : lrep [(0 : Int)] (ilen (List.replicate a.length (0 : Int))) = .ok (List.replicate a.length 0) := by
      unfold ilen; rw [List.length_replicate]; exact lrep1_ok (by have := h.le; omega)
    refine ⟨List.replicate a.length 0, ?_, by simp⟩
    unfold p_multiply
    simp only [hz.cp h, hr, on_ok]
    rw [tFor_st (fun _ => List.replicate a.length 0) rfl ?_]
    · simp
    · intro i x hx
      left
      obtain ⟨h1, h2⟩ := enum_some hx
      have : x.2 = 0 := (List.mem_replicate.mp (List.mem_of_getElem? h1)).2
      simp [this]
  obtain ⟨r, hr, lr⟩ := mu
  have hrp : Pl e r := h.of lr
  have pe2 : p_check_pair r (a ++ a) = .exc .range := by
    have ne : ilen r ≠ ilen (a ++ a) := by unfold ilen; simp; omega
    simp only [p_check_pair, hrp.cs, on_ok, decide_eq_false ne, Bool.not_false, if_true, rf_ex]
  have ad : p_add r (a ++ a) = .exc .range := by simp only [p_add, pe2, on_ex, rn_ex]
  unfold p_evaluate
  simp only [zero_ok h, on_ok]
  have c : decide (ilen [a ++ a] = 0) = false := rfl
  rw [c, if_neg (by decide), show [a ++ a].reverse = [a ++ a] from rfl]
  have st : ∀ f : List Int → List Int → TF (List Int) (List Int) (List Int), f (a ++ a) (List.replicate a.length 0) = .ex .range → (tFor [a ++ a] (List.replicate a.length 0) f : TF Unit (List Int) (List Int)) = .ex .range := fun f hf => by
    rw [tf_cons, hf]
  rw [st _ ?_]
  · rfl
  · simp only [hr, rb_ok, ad, on_ex]
end
section
variable {a : List Int} {bad : D}
theorem ref0 (h : f_worst_partner [Enc.enc a, bad, Enc.enc (1 : Int)] = .exc .range) : p__law_refused 0 a bad = .ok true := by
  unfold p__law_refused
  simp [h, tt_range, is_rr]
theorem ref1 (h : f_worst_partner [Enc.enc a, Enc.enc (0 : Int), bad] = .exc .range) : p__law_refused 1 a bad = .ok true := by
  unfold p__law_refused
  simp [h, tt_range, is_rr]
theorem ref2 (h : f_centre [Enc.enc a, bad] = .exc .range) : p__law_refused 2 a bad = .ok true := by
  unfold p__law_refused
  simp [h, tt_range, is_rr]
theorem ref3 (h : f_residues [Enc.enc a, bad] = .exc .range) : p__law_refused 3 a bad = .ok true := by
  unfold p__law_refused
  simp [h, tt_range, is_rr]
theorem ref4 (h : f_divide [Enc.enc a, Enc.enc (1 : Int), bad] = .exc .range) : p__law_refused 4 a bad = .ok true := by
  unfold p__law_refused
  simp [h, tt_range, is_rr]
theorem ref5 (h : f_split [Enc.enc a, bad, Enc.enc (1 : Int)] = .exc .range) : p__law_refused 5 a bad = .ok true := by
  unfold p__law_refused
  simp [h, tt_range, is_rr]
theorem ref6 (h : f_split [Enc.enc a, Enc.enc (3 : Int), bad] = .exc .range) : p__law_refused 6 a bad = .ok true := by
  unfold p__law_refused
  simp [h, tt_range, is_rr]
theorem ref7 (h : f_evaluate [bad, Enc.enc a] = .exc .range) : p__law_refused 7 a bad = .ok true := by
  unfold p__law_refused
  simp [h, tt_range, is_rr]
end
theorem sz_odd : ∀ e : Nat, e < 11 → szOk ((2 ^ e + (1 + if (2 ^ e : Nat) = 1 then 1 else 0) : Nat) : Int) = false := by decide
theorem odd_one {b : List Int} (h : szOk (ilen b) = false) : p__law_refused_v1 8 () b = .ok true ∧ p__law_refused_v1 9 () b = .ok true ∧ p__law_refused_v2 0 b 0 = .ok true ∧ p__law_refused_v2 2 b 5 = .ok true ∧ p__law_refused_v2 3 b 5 = .ok true ∧ p__law_refused_v2 4 b 5 = .ok true ∧ p__law_refused_v2 5 b 5 = .ok true := by
  have c := cs_ex h
  have n0 : p_norm b = .exc .range := by simp only [p_norm, c, on_ex, rn_ex]
  have n1 : p_norm_one b = .exc .range := by simp only [p_norm_one, c, on_ex, rn_ex]
  have n2 : p_worst_partner b 0 1 = .exc .range := by simp only [p_worst_partner, c, on_ex, rn_ex]
  have n3 : p_centre b 5 = .exc .range := by simp only [p_centre, c, on_ex, rn_ex]
  have n4 : p_residues b 5 = .exc .range := by simp only [p_residues, c, on_ex, rn_ex]
  have n5 : p_divide b 1 5 = .exc .range := by simp only [p_divide, c, on_ex, rn_ex]
  have n6 : p_split b 5 1 = .exc .range := by simp only [p_split, c, on_ex, rn_ex]
  refine ⟨?_, ?_, ?_, ?_, ?_, ?_, ?_⟩
  · unfold p__law_refused_v1; simp [pick2, n0, tt_range, is_rr]
  · unfold p__law_refused_v1; simp [pick2, n1, tt_range, is_rr]
  · unfold p__law_refused_v2; simp [n2, tt_range, is_rr]
  · unfold p__law_refused_v2; simp [n3, tt_range, is_rr]
  · unfold p__law_refused_v2; simp [n4, tt_range, is_rr]
  · unfold p__law_refused_v2; simp [n5, tt_range, is_rr]
  · unfold p__law_refused_v2; simp [n6, tt_range, is_rr]
section
variable {e : Nat} {a b : List Int}
theorem odd_ok (h : Pl e a) : p__law_odd_sizes a = .ok true := by
  have l := h.le
  have hn := h.pos
  have l1 : lrep [(0 : Int)] (1 + b2i (decide (ilen a = 1))) = .ok (List.replicate (1 + if a.length = 1 then 1 else 0) 0) := by
    have e1 : (1 : Int) + b2i (decide (ilen a = 1)) = ((1 + if a.length = 1 then 1 else 0 : Nat) : Int) := by
      unfold ilen b2i
      by_cases c : a.length = 1
      · rw [if_pos c, decide_eq_true (by omega)]; rfl
      · rw [if_neg c, decide_eq_false (by omega)]; rfl
    rw [e1]
    exact lrep1_ok (by split <;> omega)
  have l2 : lcat a (List.replicate (1 + if a.length = 1 then 1 else 0) 0) = .ok (a ++ List.replicate (1 + if a.length = 1 then 1 else 0) 0) := lcat_ok (by simp; split <;> omega)
  have l3 : lrep [(1 : Int)] 1025 = .ok (List.replicate 1025 1) := lrep1_ok (k := 1025) (by decide)
  have b1 : szOk (ilen ([] : List Int)) = false := by decide
  have b2 : szOk (ilen (a ++ List.replicate (1 + if a.length = 1 then 1 else 0) 0)) = false := by
    unfold ilen
    rw [List.length_append, List.length_replicate, h.1]
    exact sz_odd e (by have := h.2; omega)
  have b3 : szOk (ilen (List.replicate 1025 (1 : Int))) = false := by
    unfold ilen
    rw [List.length_replicate]
    decide
  unfold p__law_odd_sizes
  simp only [l1, l2, l3, rb_ok, on_ok]
  rw [tFor_all ?_]
  · rfl
  · intro x hx
    left
    have z : szOk (ilen x) = false := by
      simp only [List.mem_cons, List.not_mem_nil, or_false] at hx
      rcases hx with rfl | rfl | rfl <;> assumption
    obtain ⟨o1, o2, o3, o4, o5, o6, o7⟩ := odd_one z
    have lc : lcat [true, true, true, true, true] [true, true] = .ok [true, true, true, true, true, true, true] := lcat_ok (by decide)
    simp only [o1, o2, o3, o4, o5, o6, o7, rb_ok, on_ok, lc]
    rfl
theorem bounds_ok (h : Pl e a) {c : Int} (h0 : 0 ≤ c) : p__law_bounds a c = .ok true := by
  have l := h.le
  have hn := h.pos
  have la : lcat a a = .ok (a ++ a) := lcat_ok (by omega)
  have r1 : irange 8 = .ok (rng 0 8) := irange_ok (n := 8) (by decide)
  unfold p__law_bounds
  simp only [on_ok, la, rb_ok, r1]
  rw [tFor_all ?_]
  · simp only [tb_nx, odd_ok h, on_ok, rn_rt]
  · intro x hx
    left
    have hx' := rng_mem.mp hx
    have cs : x = 0 ∨ x = 1 ∨ x = 2 ∨ x = 3 ∨ x = 4 ∨ x = 5 ∨ x = 6 ∨ x = 7 := by omega
    have go : ∀ {rows : List D} {l : List D}, ix rows x = .ok (.lst l) → (∀ y ∈ l, p__law_refused x a y = .ok true) → (onE ((ix rows x).bind itemsD) fun xs => TF.bind (tFor xs (() : Unit) (fun (y : D) (_ : Unit) => (onE (Res.bind (p__law_refused x a y) fun c => .ok (!c)) fun c => if c then (.rt false) else (.nx ())))) fun _ => (.nx ()) : TF Unit Unit Bool) = .nx () := fun {rows l} e1 e2 => by
      rw [e1, rb_ok, show itemsD (.lst l) = .ok l from rfl, on_ok, tFor_all fun y hy => .inl ?_]
      · rfl
      · rw [e2 y hy]; rfl
    rcases cs with rfl | rfl | rfl | rfl | rfl | rfl | rfl | rfl
    · refine go (ix_ok (i := 0) rfl) fun y hy => ?_
      simp only [List.map_cons, List.map_nil, List.mem_cons, List.not_mem_nil, or_false] at hy
      rcases hy with rfl | rfl | rfl
      · exact ref0 ((s_worst_partner a (-1) 1).ex (wp_ex h (by omega)))
      · exact ref0 ((s_worst_partner a (ilen a) 1).ex (wp_ex h (by omega)))
      · exact ref0 ((s_worst_partner a (ilen a + c) 1).ex (wp_ex h (by omega)))
    · refine go (ix_ok (i := 1) rfl) fun y hy => ?_
      simp only [List.map_cons, List.map_nil, List.mem_cons, List.not_mem_nil, or_false] at hy
      rcases hy with rfl | rfl
      · exact ref1 ((s_worst_partner a 0 (-1)).ex (wp_ex h (by omega)))
      · exact ref1 ((s_worst_partner a 0 (-1 - c)).ex (wp_ex h (by omega)))
    · refine go (ix_ok (i := 2) rfl) fun y hy => ?_
      simp only [List.map_cons, List.map_nil, List.mem_cons, List.not_mem_nil, or_false] at hy
      rcases hy with rfl | rfl
      · exact ref2 ((s_centre a 0).ex (centre_ex h (by omega)))
      · exact ref2 ((s_centre a (-c)).ex (centre_ex h (by omega)))
    · refine go (ix_ok (i := 3) rfl) fun y hy => ?_
      simp only [List.map_cons, List.map_nil, List.mem_cons, List.not_mem_nil, or_false] at hy
      rcases hy with rfl | rfl
      · exact ref3 ((s_residues a 0).ex (residues_ex h (by omega)))
      · exact ref3 ((s_residues a (-1)).ex (residues_ex h (by omega)))
    · refine go (ix_ok (i := 4) rfl) fun y hy => ?_
      simp only [List.map_cons, List.map_nil, List.mem_cons, List.not_mem_nil, or_false] at hy
      rcases hy with rfl | rfl
      · exact ref4 ((s_divide a 1 0).ex (divide_ex h (by omega)))
      · exact ref4 ((s_divide a 1 (-1 - c)).ex (divide_ex h (by omega)))
    · refine go (ix_ok (i := 5) rfl) fun y hy => ?_
      simp only [List.map_cons, List.map_nil, List.mem_cons, List.not_mem_nil, or_false] at hy
      rcases hy with rfl | rfl
      · exact ref5 ((s_split a 2 1).ex (split_ex h (by omega)))
      · exact ref5 ((s_split a (-c) 1).ex (split_ex h (by omega)))
    · refine go (ix_ok (i := 6) rfl) fun y hy => ?_
      simp only [List.map_cons, List.map_nil, List.mem_cons, List.not_mem_nil, or_false] at hy
      rcases hy with rfl | rfl
      · exact ref6 ((s_split a 3 (-1)).ex (split_ex h (by omega)))
      · exact ref6 ((s_split a 3 4097).ex (split_ex h (by omega)))
    · refine go (ix_ok (i := 7) rfl) fun y hy => ?_
      simp only [List.map_cons, List.map_nil, List.mem_cons, List.not_mem_nil, or_false] at hy
      rcases hy with rfl | rfl
      · exact ref7 ((s_evaluate [a ++ a] a).ex (ev_ex2 h))
      · exact ref7 ((s_evaluate [] a).ex ev_ex0)
end
/-! sums of parts times powers -/
def ev (b : List Int) (ps : List (List Int)) : List Int := ps.foldr (fun p r => ladd (nmul r b) p) (zer0 b.length)
theorem ev_len {b : List Int} : ∀ {ps : List (List Int)}, (∀ p ∈ ps, p.length = b.length) → (ev b ps).length = b.length
  | [], _ => zer0_len
  | p :: ps, h => by
    show (ladd (nmul (ev b ps) b) p).length = _
    rw [ladd_len, nmul_len]
    exact ev_len fun q hq => h q (List.mem_cons_of_mem _ hq)
theorem ev_sum {b : List Int} (hb : 0 < b.length) : ∀ (ps : List (List Int)) (d w : List Int), (∀ p ∈ ps, p.length = b.length) → d.length = b.length → w.length = b.length → (ps.foldl (fun s p => (ladd s.1 (nmul p s.2), nmul s.2 b)) (d, w)).1 = ladd d (nmul w (ev b ps))
  | [], d, w, _, hd, hw => by
    show d = ladd d (nmul w (zer0 b.length))
    rw [mul_comm' (by omega) (by simp [hw]), ← hw, zero_mul' (by omega), hw, ← hd, ladd_comm (by simp), ladd_zero]
  | p :: ps, d, w, h, hd, hw => by
    have hp := h p List.mem_cons_self
    have hps := fun q hq => h q (List.mem_cons_of_mem p hq)
    have le := ev_len (b := b) hps
    rw [List.foldl_cons, ev_sum hb ps _ _ hps (by simp [hd]) (by simp [hw])]
    show ladd (ladd d (nmul p w)) (nmul (nmul w b) (ev b ps)) = ladd d (nmul w (ladd (nmul (ev b ps) b) p))
    rw [mul_addr (by omega) (by simp; omega) (by omega), mul_assoc' (by omega) (by omega) (by omega), mul_comm' (a := b) (b := ev b ps) hb le, ladd_assoc (by simp; omega), mul_comm' (a := p) (b := w) (by omega) (by omega)]
    rw [ladd_comm (a := nmul w p) (by simp)]
section
variable {e : Nat} {a b : List Int}
theorem zer_n1 {n : Nat} : n1 (zer0 n) = 0 := by
  unfold zer0
  rw [n1_tab]
  exact sm_zero fun _ _ => rfl
theorem one_n1 {n : Nat} (h : 0 < n) : n1 (one0 n) = 1 := by
  unfold one0
  rw [n1_tab, sm_one (k := 0) h fun i hi ne => by rw [if_neg ne]; rfl]
  rfl
theorem ev_ok (h : Pl e b) (sb : Sz 60 (n1 b)) {ps : List (List Int)} (hp : ∀ p ∈ ps, Pl e p ∧ Sz 20 (n1 p)) (h0 : ps ≠ []) (h4 : ps.length ≤ 4) : p_evaluate ps b = .ok (ev b ps) := by
  have hn := h.pos
  have c : decide (ilen ps = 0) = false := decide_eq_false (by
    unfold ilen
    have := List.length_pos_iff.mpr h0
    omega)
  unfold p_evaluate
  rw [c, if_neg (by decide)]
  simp only [zero_ok h, on_ok]
  rw [tFor_fold (fun r p => ladd (nmul r b) p) (fun i s => Pl e s ∧ Sz (70 * i + 1) (n1 s)) ?_ ?_]
  · rw [List.foldl_reverse, tb_nx, rn_rt, rep_tab]
    rfl
  · refine ⟨h.of (by simp), ?_⟩
    rw [rep_tab]
    show Sz _ (n1 (zer0 _))
    rw [zer_n1]
    exact Sz.mono (Sz.lit (n := 1) (by decide)) (by omega)
  · intro i p s hx ⟨hs, zs⟩
    have hi : i < ps.length := by simpa using (List.getElem?_eq_some_iff.mp hx).1
    obtain ⟨pp, zp⟩ := hp p (by simpa using List.mem_of_getElem? hx)
    have hl : b.length = s.length := h.1.trans hs.1.symm
    have z1 : ∀ x ∈ s, Sz 1000 x := fun x hx => (Sz.of_n1 zs x hx).mono (by omega)
    have z2 : ∀ x ∈ b, Sz 1000 x := fun x hx => (Sz.of_n1 sb x hx).mono (by omega)
    have hm : Pl e (nmul s b) := hs.of nmul_len
    refine ⟨.inl ?_, hs.of (by simp), ?_⟩
    · rw [multiply_ok hs h z1 z2, rb_ok, add_ok hm pp]
      rfl
    · have q := Sz.mul_n1 zs sb hs.pos hl
      exact (Sz.add_n1 (k := 70 * i + 1 + 60) q (zp.mono (by omega)) (by rw [nmul_len, pp.1, hs.1])).mono (by omega)
theorem due_ok (h : Pl e b) (sb : Sz 60 (n1 b)) {ps : List (List Int)} (hp : ∀ p ∈ ps, Pl e p ∧ Sz 20 (n1 p)) (h4 : ps.length ≤ 4) {f : List Int → List Int × List Int → TF (List Int × List Int) (List Int × List Int) Bool} {β : Type}
    (hf : ∀ p s due power, p__law_times p s.2 = .ok due → p__law_times s.2 b = .ok power → s.1.length = due.length → due.length ≤ 1024 → f p s = .nx (ladd s.1 due, power)) :
    ∃ w, (tFor ps (zer0 b.length, one0 b.length) f : TF β (List Int × List Int) Bool) = .nx (ev b ps, w) := by
  have hn := h.pos
  refine ⟨(ps.foldl (fun s p => (ladd s.1 (nmul p s.2), nmul s.2 b)) (zer0 b.length, one0 b.length)).2, ?_⟩
  rw [tFor_fold (fun s p => (ladd s.1 (nmul p s.2), nmul s.2 b)) (fun i s => Pl e s.1 ∧ Pl e s.2 ∧ Sz (70 * i + 1) (n1 s.2)) ?_ ?_]
  · have q := ev_sum (b := b) hn ps (zer0 b.length) (one0 b.length) (fun p hq => ((hp p hq).1.1).trans h.1.symm) (by simp) (by simp)
    have le := ev_len (b := b) (ps := ps) (fun p hq => ((hp p hq).1.1).trans h.1.symm)
    have o1 := one_mul' (a := ev b ps) (by omega)
    have o2 := ladd_zero (a := ev b ps)
    rw [le] at o1 o2
    rw [o1, o2] at q
    exact congrArg TF.nx (Prod.ext q rfl)
  · refine ⟨h.of (by simp), h.of (by simp), ?_⟩
    show Sz _ (n1 (one0 _))
    rw [one_n1 hn]
    exact Sz.mono (Sz.lit (n := 1) (by decide)) (by omega)
  · intro i p s hx ⟨hs, hw, zs⟩
    have hi : i < ps.length := (List.getElem?_eq_some_iff.mp hx).1
    obtain ⟨pp, zp⟩ := hp p (List.mem_of_getElem? hx)
    have z1 : ∀ x ∈ s.2, Sz 1000 x := fun x hx => (Sz.of_n1 zs x hx).mono (by omega)
    have z2 : ∀ x ∈ b, Sz 1000 x := fun x hx => (Sz.of_n1 sb x hx).mono (by omega)
    have z3 : ∀ x ∈ p, Sz 1000 x := fun x hx => (Sz.of_n1 zp x hx).mono (by omega)
    refine ⟨.inl (hf p s _ _ (times_ok pp hw z3 z1) (times_ok hw h z1 z2) ?_ ?_), hs.of (by simp), hw.of (by simp), ?_⟩
    · rw [nmul_len, hs.1, pp.1]
    · rw [nmul_len]; exact pp.le
    · exact (Sz.mul_n1 zs sb hw.pos (h.1.trans hw.1.symm)).mono (by omega)
end
theorem nbs_lists : ∀ xs : List (List Int), D.nbs (xs.map Enc.enc) = true
  | [] => rfl
  | x :: xs => by
    show (D.nbs (x.map D.int) && D.nbs (xs.map Enc.enc)) = true
    rw [nbs_ints x, nbs_lists xs]; rfl
theorem deps_lists : ∀ xs : List (List Int), D.deps (xs.map Enc.enc) ≤ 1
  | [] => Nat.zero_le _
  | x :: xs => by
    show max (D.deps (x.map D.int) + 1) (D.deps (xs.map Enc.enc)) ≤ 1
    rw [deps_ints x]
    exact Nat.max_le.mpr ⟨Nat.le_refl _, deps_lists xs⟩
theorem given_same (ps : List (List Int)) (b : List Int) : dB (opNe (Enc.enc ([(Enc.enc ps : D), (Enc.enc b : D)] : List D)) (Enc.enc ([(Enc.enc ps : D), (Enc.enc b : D)] : List D))) = .ok false := by
  have nb : (Enc.enc ([(Enc.enc ps : D), (Enc.enc b : D)] : List D) : D).nb = true := by
    show (D.nbs (ps.map Enc.enc) && (D.nbs (b.map D.int) && true)) = true
    rw [nbs_lists, nbs_ints]; rfl
  have dp : (Enc.enc ([(Enc.enc ps : D), (Enc.enc b : D)] : List D) : D).dep ≤ 64 := by
    show max (D.deps (ps.map Enc.enc) + 1) (max (D.deps (b.map D.int) + 1) 0) + 1 ≤ 64
    have := deps_lists ps
    rw [deps_ints]
    omega
  rw [ne_nb nb nb dp dp, (eqv_nb _ _ nb nb).mpr rfl]
  rfl
/-! the law -/
theorem pick5 : ∀ r : Nat, r < 5 → ∃ e, e ≤ 10 ∧ ix ([(1 : Int), (2 : Int), (4 : Int), (8 : Int), (16 : Int)] : List Int) (r : Int) = .ok ((2 ^ e : Nat) : Int)
  | 0, _ => ⟨0, by decide, ix_ok rfl⟩
  | 1, _ => ⟨1, by decide, ix_ok rfl⟩
  | 2, _ => ⟨2, by decide, ix_ok rfl⟩
  | 3, _ => ⟨3, by decide, ix_ok rfl⟩
  | 4, _ => ⟨4, by decide, ix_ok rfl⟩
theorem pick4 : ∀ r : Nat, r < 4 → ∃ e, e ≤ 10 ∧ ix ([(32 : Int), (64 : Int), (128 : Int), (1024 : Int)] : List Int) (r : Int) = .ok ((2 ^ e : Nat) : Int)
  | 0, _ => ⟨5, by decide, ix_ok rfl⟩
  | 1, _ => ⟨6, by decide, ix_ok rfl⟩
  | 2, _ => ⟨7, by decide, ix_ok rfl⟩
  | 3, _ => ⟨10, by decide, ix_ok rfl⟩
theorem size_ok {c : Int} (zc : Sz 1048576 c) : ∃ e, e ≤ 10 ∧ p__law_size c = .ok ((2 ^ e : Nat) : Int) := by
  have d1 : idiv (iabs c) 60 = .ok (iabs c / 60) := idiv_ok (lit_div (by decide) (by decide +kernel))
  have d2 : idiv (iabs c) 960 = .ok (iabs c / 960) := idiv_ok (lit_div (by decide) (by decide +kernel))
  have i1 : imod (iabs c / 60) 16 = .ok (iabs c / 60 % 16) := imod_ok (by decide)
  have i2 : imod (iabs c / 960) 4 = .ok (iabs c / 960 % 4) := imod_ok (by decide)
  have i3 : imod (iabs c) 5 = .ok (iabs c % 5) := imod_ok (by decide)
  obtain ⟨r4, h4, l4⟩ := mod_nat (iabs c / 960) (m := 4) (by decide)
  obtain ⟨r5, h5, l5⟩ := mod_nat (iabs c) (m := 5) (by decide)
  obtain ⟨e4, le4, p4⟩ := pick4 r4 l4
  obtain ⟨e5, le5, p5⟩ := pick5 r5 l5
  have h4' : iabs c / 960 % 4 = (r4 : Int) := h4
  have h5' : iabs c % 5 = (r5 : Int) := h5
  unfold p__law_size
  simp only [d1, d2, i1, i2, i3, h4', h5', p4, p5, rb_ok, on_ok]
  split
  · exact ⟨e4, le4, rfl⟩
  · exact ⟨e5, le5, rfl⟩
theorem pick3 : ∀ r : Nat, r < 3 → ∃ m : Int, ix ([(3 : Int), (1099511627776 : Int), (1 : Int)] : List Int) (r : Int) = .ok m ∧ 1 ≤ m ∧ m ≤ 1099511627776
  | 0, _ => ⟨3, ix_ok rfl, by decide, by decide⟩
  | 1, _ => ⟨1099511627776, ix_ok rfl, by decide, by decide⟩
  | 2, _ => ⟨1, ix_ok rfl, by decide, by decide⟩
theorem law_ok (ns : List Int) (hb : ∀ z ∈ ns, Builtin.Int.intBits z ≤ 1048576) : p_law ns = .ok true := by
  have zc := cell_sz hb
  have c0 : p__law_cell ns 0 = .ok (cell ns 0) := cell_ok ns 0
  have c1 : p__law_cell ns 1 = .ok (cell ns 1) := cell_ok ns 1
  have c2 : p__law_cell ns 2 = .ok (cell ns 2) := cell_ok ns 2
  have c3 : p__law_cell ns 3 = .ok (cell ns 3) := cell_ok ns 3
  have c4 : p__law_cell ns 4 = .ok (cell ns 4) := cell_ok ns 4
  have c8 : p__law_cell ns 8 = .ok (cell ns 8) := cell_ok ns 8
  have c9 : p__law_cell ns 9 = .ok (cell ns 9) := cell_ok ns 9
  obtain ⟨e, he, sz⟩ := size_ok (zc 0)
  have sh : ishl 1 40 = .ok 1099511627776 := ishl_ok (by decide +kernel)
  have sh7 : ishl 1 70 = .ok 1180591620717411303424 := ishl_ok (by decide +kernel)
  have sh9 : ishl 1 90 = .ok 1237940039285380274899124224 := ishl_ok (by decide +kernel)
  have d5 : idiv (iabs (cell ns 0)) 5 = .ok (iabs (cell ns 0) / 5) := idiv_ok (lit_div (by decide) (by decide +kernel))
  have i3 : imod (iabs (cell ns 0) / 5) 3 = .ok (iabs (cell ns 0) / 5 % 3) := imod_ok (by decide)
  obtain ⟨r2, h2, l2⟩ := mod_nat (iabs (cell ns 0) / 5) (m := 3) (by decide)
  have h2' : iabs (cell ns 0) / 5 % 3 = (r2 : Int) := h2
  obtain ⟨m, pm, m1, m2⟩ := pick3 r2 l2
  have np : 0 < 2 ^ e := Nat.two_pow_pos e
  have n1' : 2 ^ e ≤ 1024 := Nat.pow_le_pow_right (n := 2) (by decide) he
  obtain ⟨a, ea, la, ba⟩ := poly_ok (zc 1) n1' m1 m2
  obtain ⟨b, eb, lb, bb⟩ := poly_ok (zc 2) n1' m1 m2
  have h : Pl e a := ⟨la, he⟩
  have hb' : Pl e b := ⟨lb, he⟩
  have na : Nb a m := nb_mem.mpr ba
  have nb : Nb b m := nb_mem.mpr bb
  have sm1 : ∀ {c : List Int}, c.length = 2 ^ e → Nb c m → Sz 60 (n1 c) := fun {c} hc hn => by
    have q := n1_nb hn
    have q0 : (c.length : Int) * m ≤ 1024 * 1099511627776 := Int.le_trans (Int.mul_le_mul_of_nonneg_right (by omega : (c.length : Int) ≤ 1024) (by omega)) (by omega)
    have p0 := n1_nn c
    unfold Sz; omega
  have s1 := sm1 la na
  have s2 := sm1 lb nb
  have za : ∀ x ∈ a, Sz 60 x := Sz.of_n1 s1
  have za' : ∀ x ∈ a, Sz 1000 x := fun x hx => (za x hx).mono (by decide)
  have si := sizes_ok h hb' na nb m2 (zc 3)
  -- the partner
  have iz : ilen a = ((2 ^ e : Nat) : Int) := by unfold ilen; rw [la]
  obtain ⟨pl, hpl, lpl⟩ := mod_nat (iabs (cell ns 4)) np
  have ip : imod (iabs (cell ns 4)) ((2 ^ e : Nat) : Int) = .ok (pl : Int) := by rw [imod_ok (by omega), hpl]
  have lpl' : pl < a.length := by omega
  have dz : idiv (iabs (cell ns 4)) ((2 ^ e : Nat) : Int) = .ok (iabs (cell ns 4) / ((2 ^ e : Nat) : Int)) := idiv_ok (div_ok (by omega) (Sz.mono (Sz_nat (n := 20) (by omega)) (by decide)))
  have i10 : imod (iabs (cell ns 4) / ((2 ^ e : Nat) : Int)) 10 = .ok (iabs (cell ns 4) / ((2 ^ e : Nat) : Int) % 10) := imod_ok (by decide)
  have d160 : idiv (iabs (cell ns 4)) 160 = .ok (iabs (cell ns 4) / 160) := idiv_ok (lit_div (by decide) (by decide +kernel))
  have i22 : imod (iabs (cell ns 4) / 160) 2 = .ok (iabs (cell ns 4) / 160 % 2) := imod_ok (by decide)
  obtain ⟨li, eli, li0, zli⟩ : ∃ li : Int, ix ([iabs (cell ns 4) / ((2 ^ e : Nat) : Int) % 10, 1180591620717411303424] : List Int) (iabs (cell ns 4) / 160 % 2) = .ok li ∧ 0 ≤ li ∧ Sz 100 li := by
    obtain ⟨r, hr, lr⟩ := mod_nat (iabs (cell ns 4) / 160) (m := 2) (by decide)
    have hr' : iabs (cell ns 4) / 160 % 2 = (r : Int) := hr
    rw [hr']
    have cs : r = 0 ∨ r = 1 := by omega
    rcases cs with rfl | rfl
    · have q0 := Int.emod_nonneg (iabs (cell ns 4) / ((2 ^ e : Nat) : Int)) (show (10 : Int) ≠ 0 by decide)
      have q1 := Int.emod_lt_of_pos (iabs (cell ns 4) / ((2 ^ e : Nat) : Int)) (show (0 : Int) < 10 by decide)
      exact ⟨_, ix_ok rfl, q0, Sz.mono (n := 10) (by unfold Sz; omega) (by decide)⟩
    · exact ⟨_, ix_ok rfl, by decide, Sz.lit (by decide)⟩
  have pa := partner_ok h lpl' li0 zli
  have lpa := lpartner_ok h lpl' zli
  have lw : (wp a pl li).length = a.length := tab_len
  have hw : Pl e (wp a pl li) := h.of lw
  have zw : ∀ x ∈ wp a pl li, Sz 1000 x := fun x hx => by
    obtain ⟨q1, q2⟩ := nb_mem.mp (wp_nb (a := a) (place := pl) li0) x hx
    exact (Sz.le zli (i := x) (by omega)).mono (by decide)
  have mu := multiply_ok h hw za' zw
  have hq : Pl e (nmul a (wp a pl li)) := h.of nmul_len
  have gx : ix (nmul a (wp a pl li)) (pl : Int) = .ok (n1 a * li) := by
    rw [ix_ok (get_at0 (by simpa using lpl')), wp_at h.pos lpl']
  have nq : p_norm (nmul a (wp a pl li)) = .ok (n1 a * li) := by rw [norm_ok hq, wp_nm h lpl' li0]
  have ml : imul (n1 a) li = .ok (n1 a * li) := imul_ok (mul_ok s1 zli (by decide))
  -- items
  have q90 := Int.emod_nonneg (iabs (cell ns 3)) (show (1237940039285380274899124224 : Int) ≠ 0 by decide)
  have q91 := Int.emod_lt_of_pos (iabs (cell ns 3)) (show (0 : Int) < 1237940039285380274899124224 by decide)
  have i90 : imod (iabs (cell ns 3)) 1237940039285380274899124224 = .ok (iabs (cell ns 3) % 1237940039285380274899124224) := imod_ok (by decide)
  have d7 : idiv (iabs (cell ns 3)) 7 = .ok (iabs (cell ns 3) / 7) := idiv_ok (lit_div (by decide) (by decide +kernel))
  have i200 : imod (iabs (cell ns 3) / 7) 200 = .ok (iabs (cell ns 3) / 7 % 200) := imod_ok (by decide)
  have q92 := Int.emod_nonneg (iabs (cell ns 3) / 7) (show (200 : Int) ≠ 0 by decide)
  have q93 := Int.emod_lt_of_pos (iabs (cell ns 3) / 7) (show (0 : Int) < 200 by decide)
  have i9 : imod (iabs (cell ns 3)) 9 = .ok (iabs (cell ns 3) % 9) := imod_ok (by decide)
  obtain ⟨r9, h9, l9⟩ := mod_nat (iabs (cell ns 3)) (m := 9) (by decide)
  have h9' : iabs (cell ns 3) % 9 = (r9 : Int) := h9
  have it := items_ok h za (k := 1 + iabs (cell ns 3) % 1237940039285380274899124224) (b := 3 + iabs (cell ns 3) / 7 % 200) (n := r9) (by omega)
    (by unfold Sz; omega) (by omega) (by unfold Sz; omega) (by omega)
  have bo := bounds_ok h (c := iabs (cell ns 8)) (iabs_nn _)
  -- the parts
  have i4 : imod (iabs (cell ns 9)) 4 = .ok (iabs (cell ns 9) % 4) := imod_ok (by decide)
  obtain ⟨r4, h4, l4⟩ := mod_nat (iabs (cell ns 9)) (m := 4) (by decide)
  have h4' : iabs (cell ns 9) % 4 = (r4 : Int) := h4
  have rg : irange (1 + (r4 : Int)) = .ok (rng 0 (1 + r4)) := by
    rw [show (1 : Int) + r4 = ((1 + r4 : Nat) : Int) by omega]
    exact irange_ok (by omega)
  have each : ∀ x : Int, ∃ row : List Int, x ∈ rng 0 (1 + r4) → (Res.bind (p__law_cell ns ((5 : Int) + x)) fun v => (p__law_poly v ((2 ^ e : Nat) : Int) (5 : Int))) = .ok row ∧ row.length = 2 ^ e ∧ ∀ y ∈ row, -5 ≤ y ∧ y ≤ 5 := fun x => by
    by_cases hx : x ∈ rng 0 (1 + r4)
    · have hx' := rng_mem.mp hx
      have cx : p__law_cell ns (5 + x) = .ok (cell ns (5 + x.toNat)) := by
        rw [show (5 : Int) + x = ((5 + x.toNat : Nat) : Int) by omega]
        exact cell_ok ns _
      obtain ⟨row, e1, e2, e3⟩ := poly_ok (zc (5 + x.toNat)) n1' (m := 5) (by decide) (by decide)
      exact ⟨row, fun _ => ⟨by rw [cx, rb_ok]; exact e1, e2, e3⟩⟩
    · exact ⟨[], fun q => absurd q hx⟩
  obtain ⟨g, hg⟩ := Classical.axiomOfChoice each
  have cp : cmapE (fun (x : Int) => (Res.bind (p__law_cell ns ((5 : Int) + x)) fun v => (p__law_poly v ((2 ^ e : Nat) : Int) (5 : Int)))) (rng 0 (1 + r4)) = .ok ((rng 0 (1 + r4)).map g) := cmapE_ok (by simp; omega) fun x hx => (hg x hx).1
  generalize hps : (rng 0 (1 + r4)).map g = ps at cp
  have psl : ps.length = 1 + r4 := by rw [← hps]; simp
  have hp : ∀ p ∈ ps, Pl e p ∧ Sz 20 (n1 p) := fun p hq => by
    rw [← hps] at hq
    obtain ⟨x, hx, rfl⟩ := List.mem_map.mp hq
    obtain ⟨_, g2, g3⟩ := hg x hx
    refine ⟨⟨g2, he⟩, ?_⟩
    have q := n1_nb (nb_mem.mpr g3)
    have p0 := n1_nn (g x)
    rw [g2] at q
    have : ((2 ^ e : Nat) : Int) * 5 ≤ 1024 * 5 := Int.mul_le_mul_of_nonneg_right (by omega) (by decide)
    unfold Sz; omega
  have cid : cmap (fun (x : List Int) => x) ps = .ok ps := by rw [cmap_ok (by omega), List.map_id']
  have cz : cmap (fun (_ : Int) => (0 : Int)) a = .ok (zer0 b.length) := by rw [cmap_ok (by omega), map_tab, la, ← lb]; rfl
  have r1 : irange (((2 ^ e : Nat) : Int) - 1) = .ok (rng 0 (2 ^ e - 1)) := by
    rw [show ((2 ^ e : Nat) : Int) - 1 = ((2 ^ e - 1 : Nat) : Int) by omega]
    exact irange_ok (by omega)
  have cz2 : cmap (fun (_ : Int) => (0 : Int)) (rng 0 (2 ^ e - 1)) = .ok (List.replicate (2 ^ e - 1) 0) := by rw [cmap_ok (by simp; omega), rng_map_tab, rep_tab]
  have cpow : lcat [(1 : Int)] (List.replicate (2 ^ e - 1) 0) = .ok (one0 b.length) := by
    rw [lcat_ok (by simp; omega), lb]
    congr 1
    refine List.ext_getElem? fun i => ?_
    unfold one0
    cases i with
    | zero => rw [tab_get np]; rfl
    | succ i =>
      show (List.replicate (2 ^ e - 1) (0 : Int))[i]? = _
      by_cases hi : i + 1 < 2 ^ e
      · rw [tab_get hi, List.getElem?_replicate, if_pos (by omega)]; rfl
      · rw [List.getElem?_eq_none (by simp; omega), List.getElem?_eq_none (by simp; omega)]
  have evo := ev_ok hb' s2 hp (by intro q; rw [q] at psl; simp at psl; omega) (by omega)
  have fev := (s_evaluate ps b).va evo
  have fil := (s__law_is_list (ev b ps) (ev b ps)).va (is_list_self _)
  unfold p_law
  simp only [c0, c1, c2, c3, c4, c8, c9, sz, sh, sh7, sh9, d5, i3, h2', pm, ea, eb, si, rb_ok, on_ok, ip, dz, i10, d160, i22, eli, pa, lpa, is_list_self, Bool.not_true, ro_ok, ro_ok2, decide_true, Bool.false_eq_true, if_false, Bool.or_self, mu, gx, norm1_ok h, ml, nq, i90, d7, i200, i9, h9', it, bo, i4, h4', rg, cp, cid, cz, r1, cz2, cpow]
  have fin : ∀ {t : TF Unit Unit Bool}, tRun t = .ok true → tRun (TF.bind (if decide (((2 ^ e : Nat) : Int) ≤ 128) = true then (.nx ()) else (.nx ()) : TF Unit Unit Bool) fun _ => t) = .ok true := fun {t} ht => by
    split <;> exact ht
  refine fin ?_
  split
  · rfl
  · obtain ⟨w, hw⟩ := due_ok hb' s2 hp (by omega) (β := Unit) (f := fun (x : (List Int)) (s : ((List Int) × (List Int))) => (onE (Res.bind (Res.bind (p__law_times x s.2) fun ys => .ok (List.zip s.1 ys)) fun xs => (cmap (fun (x : (Int × Int)) => (x.1 + x.2)) xs)) fun due => (onE (p__law_times s.2 b) fun power => (.nx (due, power))))) fun p s due power e1 e2 e3 e4 => by
      rw [e1, rb_ok, rb_ok, cmap_ok (by simp; omega), on_ok, e2, on_ok, zip_map_tab e3]
      rfl
    rw [hw]
    simp only [tb_nx, ix_0, ix_1, rb_ok]
    rw [fev, rb_ok, fil, rb_ok]
    simp only [given_same, show D.truth (Enc.enc true) = .ok true from rfl, rb_ok, Bool.not_true, ro_ok2, Bool.or_self, on_ok, Bool.false_eq_true, if_false, bo, rn_rt]
theorem math (ns : List Int) (_hl : ns.length ≤ 63) (hb : ∀ z ∈ ns, Builtin.Int.intBits z ≤ 1048576) : f_law [.lst (ns.map D.int)] = .ok (.bl true) := by
  have s := s_law ns
  rw [law_ok ns hb] at s
  exact s
end K03
namespace K03
open PySem PySem.Spec L2 VL
structure Tx (K : PySem.W.Frag) (mg : Str → Option Value) : Prop where
  blt : Blt mg
  er : ErT K mg
  cl : ClT K mg
theorem hu65 {k : Nat} {A : Around} (hr : Room k A) : A.units + 65 < cLine := by have := hr.un; omega
abbrev top (i : Nat) : Stmt := PySem.Challenge.pw_noisepurse_k03_norms_and_worst_partners.main.body.getD i (.Pass ⟨0, 0, 0, 0⟩)
abbrev st_check_modulus : Stmt := top 4
theorem sc_check_modulus : FnScope ["k"] ["k"] (defScope st_check_modulus) := ⟨rfl, rfl, rfl, by decide +kernel, rfl, by decide +kernel, by decide +kernel⟩
theorem ok_check_modulus {P : Program} {w : World} {K : PySem.W.Frag} {mg : Str → Option Value} {base : Heap} {fA : Addr} {fd : FuncData} {dvs : List V} {kws : List (Str × V)} (t : Tx K mg) {C_OutOfRange : Addr} (g_OutOfRange : mg "OutOfRange" = some (.ref C_OutOfRange))  (F : FunD K "check_modulus" "check_modulus" (defArgs st_check_modulus) (defBody st_check_modulus) (defScope st_check_modulus) dvs kws fA fd) :
    FnOk P w K mg base (L2.CX P w) 1 fA fd ["k"] (spF ⟨K, mg, none⟩ 1 f_check_modulus 0) := by
  have nd := (sc_check_modulus).nd
  exact fn_ok (Γ := [0]) (Γ' := [0]) F sc_check_modulus rfl rfl (fun cdv A outer s H E hr => by
    unfold b_check_modulus
    exact (ss_one (s_if (Γ' := [0]) rfl (q_cmp op_lt opd_B0 (e_var 0) (e_int (n := 0)) (nomark _))
 (ss_one (s_raise (Γ' := [0]) .range rfl rfl rfl (takes_of rfl rfl rfl rfl) (t.er.erc .range _ g_OutOfRange rfl)))
 (ss_nil))))
abbrev st_check_digits : Stmt := top 8
theorem sc_check_digits : FnScope ["base", "count"] ["base", "count"] (defScope st_check_digits) := ⟨rfl, rfl, rfl, by decide +kernel, rfl, by decide +kernel, by decide +kernel⟩
theorem ok_check_digits {P : Program} {w : World} {K : PySem.W.Frag} {mg : Str → Option Value} {base : Heap} {fA : Addr} {fd : FuncData} {dvs : List V} {kws : List (Str × V)} (t : Tx K mg) {C_OutOfRange : Addr} (g_OutOfRange : mg "OutOfRange" = some (.ref C_OutOfRange))  (F : FunD K "check_digits" "check_digits" (defArgs st_check_digits) (defBody st_check_digits) (defScope st_check_digits) dvs kws fA fd) :
    FnOk P w K mg base (L2.CX P w) 1 fA fd ["base", "count"] (spF ⟨K, mg, none⟩ 2 f_check_digits 0) := by
  have nd := (sc_check_digits).nd
  exact fn_ok (Γ := [0, 0]) (Γ' := [0, 0]) F sc_check_digits rfl rfl (fun cdv A outer s H E hr => by
    unfold b_check_digits
    exact (ss_cons (s_if (Γ' := [0, 0]) rfl (q_cmp op_lt opd_B0 (e_var 0) (e_int (n := 0)) (nomark _))
 (ss_one (s_raise (Γ' := [0, 0]) .range rfl rfl rfl (takes_of rfl rfl rfl rfl) (t.er.erc .range _ g_OutOfRange rfl)))
 (ss_nil))
 (ss_one (s_if (Γ' := [0, 0]) rfl (q_not (q_chain op_le op_le opd_B0 opd_B0 (e_int (n := 0)) (e_var 1) (e_int (n := 0))))
 (ss_one (s_raise (Γ' := [0, 0]) .range rfl rfl rfl (takes_of rfl rfl rfl rfl) (t.er.erc .range _ g_OutOfRange rfl)))
 (ss_nil)))))
abbrev st_check_size : Stmt := top 11
theorem sc_check_size : FnScope ["size"] ["size"] (defScope st_check_size) := ⟨rfl, rfl, rfl, by decide +kernel, rfl, by decide +kernel, by decide +kernel⟩
theorem ok_check_size {P : Program} {w : World} {K : PySem.W.Frag} {mg : Str → Option Value} {base : Heap} {fA : Addr} {fd : FuncData} {dvs : List V} {kws : List (Str × V)} (t : Tx K mg) {C_OutOfRange : Addr} (g_OutOfRange : mg "OutOfRange" = some (.ref C_OutOfRange))  (F : FunD K "check_size" "check_size" (defArgs st_check_size) (defBody st_check_size) (defScope st_check_size) dvs kws fA fd) :
    FnOk P w K mg base (L2.CX P w) 1 fA fd ["size"] (spF ⟨K, mg, none⟩ 1 f_check_size 0) := by
  have nd := (sc_check_size).nd
  exact fn_ok (Γ := [0]) (Γ' := [0]) F sc_check_size rfl rfl (fun cdv A outer s H E hr => by
    unfold b_check_size
    exact (ss_one (s_if (Γ' := [0]) rfl (q_w (w_or (q_not (q_chain op_le op_le opd_B0 opd_B0 (e_int (n := 0)) (e_var 0) (e_int (n := 0)))) (w_or1 (q_cmp (op_neD hr.units) ob_ne (e_op2 (n := 0) op_and od_and (e_var 0) (e_op2 (n := 0) op_sub od_sub (e_var 0) (e_int (n := 0)))) (e_int (n := 0)) (nomark _)))))
 (ss_one (s_raise (Γ' := [0]) .range rfl rfl rfl (takes_of rfl rfl rfl rfl) (t.er.erc .range _ g_OutOfRange rfl)))
 (ss_nil))))
abbrev st__law_cell : Stmt := top 27
theorem sc__law_cell : FnScope ["script", "k"] ["script", "k"] (defScope st__law_cell) := ⟨rfl, rfl, rfl, by decide +kernel, rfl, by decide +kernel, by decide +kernel⟩
theorem ok__law_cell {P : Program} {w : World} {K : PySem.W.Frag} {mg : Str → Option Value} {base : Heap} {fA : Addr} {fd : FuncData} {dvs : List V} {kws : List (Str × V)} (t : Tx K mg)   (F : FunD K "_law_cell" "_law_cell" (defArgs st__law_cell) (defBody st__law_cell) (defScope st__law_cell) dvs kws fA fd) :
    FnOk P w K mg base (L2.CX P w) 1 fA fd ["script", "k"] (spF ⟨K, mg, none⟩ 2 f__law_cell 0) := by
  have nd := (sc__law_cell).nd
  exact fn_ok (Γ := [0, 0]) (Γ' := [0, 0]) F sc__law_cell rfl rfl (fun cdv A outer s H E hr => by
    unfold b__law_cell
    exact (ss_cons (s_if (Γ' := [0, 0]) rfl (q_cmp op_lt opd_B0 (e_var 1) (e_len (n := 0) t.blt.len (a_cons (e_var 0) a_nil)) (nomark _))
 (ss_one (s_ret (Γ' := [0, 0]) rfl (e_int' (n := 0) t.blt.int (a_cons (e_ix (e_var 0) (e_var 1)) a_nil))))
 (ss_nil))
 (ss_one (s_ret (Γ' := [0, 0]) rfl (e_int (n := 0))))))
abbrev st__law_mixed : Stmt := top 28
theorem sc__law_mixed : FnScope ["cell", "k", "x"] ["cell", "k"] (defScope st__law_mixed) := ⟨rfl, rfl, rfl, by decide +kernel, rfl, by decide +kernel, by decide +kernel⟩
theorem ok__law_mixed {P : Program} {w : World} {K : PySem.W.Frag} {mg : Str → Option Value} {base : Heap} {fA : Addr} {fd : FuncData} {dvs : List V} {kws : List (Str × V)} (t : Tx K mg)   (F : FunD K "_law_mixed" "_law_mixed" (defArgs st__law_mixed) (defBody st__law_mixed) (defScope st__law_mixed) dvs kws fA fd) :
    FnOk P w K mg base (L2.CX P w) 1 fA fd ["cell", "k"] (spF ⟨K, mg, none⟩ 2 f__law_mixed 0) := by
  have nd := (sc__law_mixed).nd
  exact fn_ok (Γ := [0, 0, 0]) (Γ' := [0, 0, 0]) F sc__law_mixed rfl rfl (fun cdv A outer s H E hr => by
    unfold b__law_mixed
    exact (ss_cons (s_asg (Γ' := [0, 0, 0]) 2 rfl nd (e_op2 (n := 0) op_mod od_mod (e_op2 op_addD od_add (e_op2 op_addD od_add (e_op2 op_mulD od_mul (e_int' (n := 0) t.blt.int (a_cons (e_var 0) a_nil)) (e_int (n := 0))) (e_op2 op_mulD od_mul (e_var 1) (e_int (n := 0)))) (e_int (n := 0))) (e_int (n := 0))) rfl)
 (ss_cons (s_asg (Γ' := [0, 0, 0]) 2 rfl nd (e_op2 (n := 0) op_mod od_mod (e_op2 op_addD od_add (e_op2 op_addD od_add (e_op2 op_mulD od_mul (e_var 2) (e_var 2)) (e_op2 op_mulD od_mul (e_var 1) (e_int (n := 0)))) (e_int (n := 0))) (e_int (n := 0))) rfl)
 (ss_cons (s_asg (Γ' := [0, 0, 0]) 2 rfl nd (e_op2 (n := 0) op_mod od_mod (e_op2 op_addD od_add (e_op2 op_addD od_add (e_op2 op_mulD od_mul (e_var 2) (e_var 2)) (e_op2 op_mulD od_mul (e_var 1) (e_int (n := 0)))) (e_int (n := 0))) (e_int (n := 0))) rfl)
 (ss_one (s_ret (Γ' := [0, 0, 0]) rfl (e_op2 (n := 0) op_fdivL od_div (e_var 2) (e_int (n := 0)))))))))
abbrev st__law_integer : Stmt := top 29
theorem sc__law_integer : FnScope ["actual"] ["actual"] (defScope st__law_integer) := ⟨rfl, rfl, rfl, by decide +kernel, rfl, by decide +kernel, by decide +kernel⟩
theorem ok__law_integer {P : Program} {w : World} {K : PySem.W.Frag} {mg : Str → Option Value} {base : Heap} {fA : Addr} {fd : FuncData} {dvs : List V} {kws : List (Str × V)} (t : Tx K mg)   (F : FunD K "_law_integer" "_law_integer" (defArgs st__law_integer) (defBody st__law_integer) (defScope st__law_integer) dvs kws fA fd) :
    FnOk P w K mg base (L2.CX P w) 1 fA fd ["actual"] (spF ⟨K, mg, none⟩ 1 f__law_integer 0) := by
  have nd := (sc__law_integer).nd
  exact fn_ok (Γ := [0]) (Γ' := [0]) F sc__law_integer rfl rfl (fun cdv A outer s H E hr => by
    unfold b__law_integer
    exact (ss_one (s_ret (Γ' := [0]) rfl (e_and (e_isTy (n := 0) t.blt.isi t.blt.int bt_int (e_var 0)) (e_one (e_not (n := 0) (e_isTy (n := 0) t.blt.isi t.blt.bool bt_bool (e_var 0))))))))
abbrev st__law_times : Stmt := top 33
theorem sc__law_times : FnScope ["a", "b", "size", "full", "i", "j", "k"] ["a", "b"] (defScope st__law_times) := ⟨rfl, rfl, rfl, by decide +kernel, rfl, by decide +kernel, by decide +kernel⟩
theorem ok__law_times {P : Program} {w : World} {K : PySem.W.Frag} {mg : Str → Option Value} {base : Heap} {fA : Addr} {fd : FuncData} {dvs : List V} {kws : List (Str × V)} (t : Tx K mg)   (F : FunD K "_law_times" "_law_times" (defArgs st__law_times) (defBody st__law_times) (defScope st__law_times) dvs kws fA fd) :
    FnOk P w K mg base (L2.CX P w) 1 fA fd ["a", "b"] (spF ⟨K, mg, none⟩ 2 f__law_times 0) := by
  have nd := (sc__law_times).nd
  exact fn_ok (Γ := [0, 0, 0, 0, 0, 0, 0]) (Γ' := [0, 0, 0, 0, 0, 0, 0]) F sc__law_times rfl rfl (fun cdv A outer s H E hr => by
    unfold b__law_times c__law_times_0 w__law_times_1 w__law_times_0
    exact (ss_cons (s_asg (Γ' := [0, 0, 0, 0, 0, 0, 0]) 2 rfl nd (e_len (n := 0) t.blt.len (a_cons (e_var 0) a_nil)) rfl)
 (ss_cons (s_asg (Γ' := [0, 0, 0, 1, 0, 0, 0]) 3 rfl nd (e_comp rfl nd (i_range1 t.blt.range (e_op2 op_mulD od_mul (e_int (n := 0)) (e_var 2))) (blkOk_by (own := [(("k" : Str), 6)]) (by kernel_rfl)) (by decide) (fun _ _ _ _ _ => (g_name 6 nd)) (fun _ _ _ _ _ => t_nil) (fun _ _ _ _ _ => (e_int (n := 0)))) rfl)
 (ss_cons (s_for [false, false, false, false, false, false, false] rfl (passes_of rfl) rfl (i_range1 t.blt.range (e_var 2)) (g_name 4 nd) (Γ' := [0, 0, 0, 0, 0, 0, 0]) rfl
 (ss_one (s_for [false, false, false, true, false, false, false] rfl (passes_of rfl) rfl (i_range1 t.blt.range (e_var 2)) (g_name 5 nd) (Γ' := [0, 0, 0, 1, 0, 0, 0]) rfl
 (ss_one (s_set 3 rfl (e_op2 op_addD od_add (e_ixO 3 (e_op2 op_addD od_add (e_var 4) (e_var 5))) (e_op2 op_mulD od_mul (e_ix (e_var 0) (e_var 4)) (e_ix (e_var 1) (e_var 5)))) (e_op2 op_addD od_add (e_var 4) (e_var 5)))))))
 (ss_one (s_ret (Γ' := [0, 0, 0, 0, 0, 0, 0]) rfl (e_fz (e_comp rfl nd (i_range1 t.blt.range (e_var 2)) (blkOk_by (own := [(("k" : Str), 6)]) (by kernel_rfl)) (by decide) (fun _ _ _ _ _ => (g_name 6 nd)) (fun _ _ _ _ _ => t_nil) (fun _ _ _ _ _ => (e_op2 (n := 0) op_sub od_sub (e_ix (e_var 3) (e_var 6)) (e_ix (e_var 3) (e_op2 op_addD od_add (e_var 6) (e_var 2)))))))))))))
abbrev st__law_partner : Stmt := top 34
theorem sc__law_partner : FnScope ["a", "place", "most", "size", "row", "i", "sign", "one"] ["a", "place", "most"] (defScope st__law_partner) := ⟨rfl, rfl, rfl, by decide +kernel, rfl, by decide +kernel, by decide +kernel⟩
theorem ok__law_partner {P : Program} {w : World} {K : PySem.W.Frag} {mg : Str → Option Value} {base : Heap} {fA : Addr} {fd : FuncData} {dvs : List V} {kws : List (Str × V)} (t : Tx K mg)   (F : FunD K "_law_partner" "_law_partner" (defArgs st__law_partner) (defBody st__law_partner) (defScope st__law_partner) dvs kws fA fd) :
    FnOk P w K mg base (L2.CX P w) 1 fA fd ["a", "place", "most"] (spF ⟨K, mg, none⟩ 3 f__law_partner 0) := by
  have nd := (sc__law_partner).nd
  exact fn_ok (Γ := [0, 0, 0, 0, 0, 0, 0, 0]) (Γ' := [0, 0, 0, 0, 0, 0, 0, 0]) F sc__law_partner rfl rfl (fun cdv A outer s H E hr => by
    unfold b__law_partner w__law_partner_0
    exact (ss_cons (s_asg (Γ' := [0, 0, 0, 0, 0, 0, 0, 0]) 3 rfl nd (e_len (n := 0) t.blt.len (a_cons (e_var 0) a_nil)) rfl)
 (ss_cons (s_asgC 4 rfl rfl nd (i_seq (e_var 0)) (blkOk_by (own := [(("one" : Str), 7)]) (by kernel_rfl)) (by decide) (fun _ _ _ _ _ => (g_name 7 nd)) (fun _ _ _ _ _ => t_nil) (fun _ _ _ _ _ => (e_var 2)) (Γ' := [0, 0, 0, 0, 1, 0, 0, 0]) rfl (Or.inl (by decide)))
 (ss_cons (s_for [false, false, false, false, false, false, false, false] rfl (passes_of rfl) rfl (i_range1 t.blt.range (e_var 3)) (g_name 5 nd) (Γ' := [0, 0, 0, 0, 0, 0, 0, 0]) rfl
 (ss_cons (s_asg (Γ' := [0, 0, 0, 0, 1, 0, 0, 0]) 6 rfl nd (e_int (n := 0)) rfl)
 (ss_cons (s_if (Γ' := [0, 0, 0, 0, 1, 0, 0, 0]) rfl (q_cmp op_lt opd_B0 (e_op2 (n := 0) op_sub od_sub (e_var 1) (e_var 5)) (e_int (n := 0)) (nomark _))
 (ss_one (s_asg (Γ' := [0, 0, 0, 0, 1, 0, 0, 0]) 6 rfl nd (e_un (n := 0) un_neg ud_neg (e_int (n := 0))) rfl))
 (ss_nil))
 (ss_cons (s_if (Γ' := [0, 0, 0, 0, 1, 0, 0, 0]) rfl (q_cmp op_lt opd_B0 (e_ix (e_var 0) (e_var 5)) (e_int (n := 0)) (nomark _))
 (ss_one (s_asg (Γ' := [0, 0, 0, 0, 1, 0, 0, 0]) 6 rfl nd (e_un (n := 0) un_neg ud_neg (e_var 6)) rfl))
 (ss_nil))
 (ss_one (s_if (Γ' := [0, 0, 0, 0, 1, 0, 0, 0]) rfl (q_cmp (op_neD hr.units) ob_ne (e_ix (e_var 0) (e_var 5)) (e_int (n := 0)) (nomark _))
 (ss_one (s_set 4 rfl (e_op2 op_mulD od_mul (e_var 6) (e_var 2)) (e_op2 (n := 0) op_mod od_mod (e_int' (n := 0) t.blt.int (a_cons (e_op2 (n := 0) op_sub od_sub (e_var 1) (e_var 5)) a_nil)) (e_var 3))))
 (ss_nil)))))))
 (ss_one (s_ret (Γ' := [0, 0, 0, 0, 0, 0, 0, 0]) rfl (e_var 4)))))))
abbrev st__law_size : Stmt := top 40
theorem sc__law_size : FnScope ["cell", "rest"] ["cell"] (defScope st__law_size) := ⟨rfl, rfl, rfl, by decide +kernel, rfl, by decide +kernel, by decide +kernel⟩
theorem ok__law_size {P : Program} {w : World} {K : PySem.W.Frag} {mg : Str → Option Value} {base : Heap} {fA : Addr} {fd : FuncData} {dvs : List V} {kws : List (Str × V)} (t : Tx K mg)   (F : FunD K "_law_size" "_law_size" (defArgs st__law_size) (defBody st__law_size) (defScope st__law_size) dvs kws fA fd) :
    FnOk P w K mg base (L2.CX P w) 1 fA fd ["cell"] (spF ⟨K, mg, none⟩ 1 f__law_size 0) := by
  have nd := (sc__law_size).nd
  exact fn_ok (Γ := [0, 0]) (Γ' := [0, 0]) F sc__law_size rfl rfl (fun cdv A outer s H E hr => by
    unfold b__law_size
    exact (ss_cons (s_asg (Γ' := [0, 0]) 1 rfl nd (e_abs (n := 0) t.blt.abs (a_cons (e_var 0) a_nil)) rfl)
 (ss_cons (s_if (Γ' := [0, 0]) rfl (q_cmp (op_eqD hr.units) ob_eq (e_op2 (n := 0) op_mod od_mod (e_op2 (n := 0) op_fdivL od_div (e_var 1) (e_int (n := 0))) (e_int (n := 0))) (e_int (n := 0)) (nomark _))
 (ss_one (s_ret (Γ' := [0, 0]) rfl (e_ix (e_lst (a_cons (e_int (n := 0)) (a_cons (e_int (n := 0)) (a_cons (e_int (n := 0)) (a_cons (e_int (n := 0)) a_nil))))) (e_op2 (n := 0) op_mod od_mod (e_op2 (n := 0) op_fdivL od_div (e_var 1) (e_int (n := 0))) (e_int (n := 0))))))
 (ss_nil))
 (ss_one (s_ret (Γ' := [0, 0]) rfl (e_ix (e_lst (a_cons (e_int (n := 0)) (a_cons (e_int (n := 0)) (a_cons (e_int (n := 0)) (a_cons (e_int (n := 0)) (a_cons (e_int (n := 0)) a_nil)))))) (e_op2 (n := 0) op_mod od_mod (e_var 1) (e_int (n := 0)))))))))
abbrev st_residue : Stmt := top 5
theorem sc_residue : FnScope ["a", "k"] ["a", "k"] (defScope st_residue) := ⟨rfl, rfl, rfl, by decide +kernel, rfl, by decide +kernel, by decide +kernel⟩
theorem ok_residue {P : Program} {w : World} {K : PySem.W.Frag} {mg : Str → Option Value} {base : Heap} {fA : Addr} {fd : FuncData} {dvs : List V} {kws : List (Str × V)} (t : Tx K mg)  (c_check_modulus : FnS P w K mg base "check_modulus" 1 1 f_check_modulus 0 []) (F : FunD K "residue" "residue" (defArgs st_residue) (defBody st_residue) (defScope st_residue) dvs kws fA fd) :
    FnOk P w K mg base (L2.CX P w) 2 fA fd ["a", "k"] (spF ⟨K, mg, none⟩ 2 f_residue 0) := by
  have nd := (sc_residue).nd
  exact fn_ok (Γ := [0, 0]) (Γ' := [0, 0]) F sc_residue rfl rfl (fun cdv A outer s H E hr => by
    unfold b_residue
    exact (ss_cons (s_expr rfl (e_fn c_check_modulus hr (by decide) (takes_of rfl rfl rfl rfl) (a_cons (e_var 1) a_nil) (al_cons al_nil)))
 (ss_one (s_ret (Γ' := [0, 0]) rfl (e_op2 (n := 0) op_mod od_mod (e_var 0) (e_var 1))))))
abbrev st_centred : Stmt := top 6
theorem sc_centred : FnScope ["a", "k"] ["a", "k"] (defScope st_centred) := ⟨rfl, rfl, rfl, by decide +kernel, rfl, by decide +kernel, by decide +kernel⟩
theorem ok_centred {P : Program} {w : World} {K : PySem.W.Frag} {mg : Str → Option Value} {base : Heap} {fA : Addr} {fd : FuncData} {dvs : List V} {kws : List (Str × V)} (t : Tx K mg)  (c_check_modulus : FnS P w K mg base "check_modulus" 1 1 f_check_modulus 0 []) (F : FunD K "centred" "centred" (defArgs st_centred) (defBody st_centred) (defScope st_centred) dvs kws fA fd) :
    FnOk P w K mg base (L2.CX P w) 2 fA fd ["a", "k"] (spF ⟨K, mg, none⟩ 2 f_centred 0) := by
  have nd := (sc_centred).nd
  exact fn_ok (Γ := [0, 0]) (Γ' := [0, 0]) F sc_centred rfl rfl (fun cdv A outer s H E hr => by
    unfold b_centred
    exact (ss_cons (s_expr rfl (e_fn c_check_modulus hr (by decide) (takes_of rfl rfl rfl rfl) (a_cons (e_var 1) a_nil) (al_cons al_nil)))
 (ss_one (s_ret (Γ' := [0, 0]) rfl (e_op2 (n := 0) op_sub od_sub (e_op2 (n := 0) op_fdivL od_div (e_var 1) (e_int (n := 0))) (e_op2 (n := 0) op_mod od_mod (e_op2 (n := 0) op_sub od_sub (e_op2 (n := 0) op_fdivL od_div (e_var 1) (e_int (n := 0))) (e_var 0)) (e_var 1)))))))
abbrev st_round_div : Stmt := top 7
theorem sc_round_div : FnScope ["a", "b"] ["a", "b"] (defScope st_round_div) := ⟨rfl, rfl, rfl, by decide +kernel, rfl, by decide +kernel, by decide +kernel⟩
theorem ok_round_div {P : Program} {w : World} {K : PySem.W.Frag} {mg : Str → Option Value} {base : Heap} {fA : Addr} {fd : FuncData} {dvs : List V} {kws : List (Str × V)} (t : Tx K mg)  (c_check_modulus : FnS P w K mg base "check_modulus" 1 1 f_check_modulus 0 []) (F : FunD K "round_div" "round_div" (defArgs st_round_div) (defBody st_round_div) (defScope st_round_div) dvs kws fA fd) :
    FnOk P w K mg base (L2.CX P w) 2 fA fd ["a", "b"] (spF ⟨K, mg, none⟩ 2 f_round_div 0) := by
  have nd := (sc_round_div).nd
  exact fn_ok (Γ := [0, 0]) (Γ' := [0, 0]) F sc_round_div rfl rfl (fun cdv A outer s H E hr => by
    unfold b_round_div
    exact (ss_cons (s_expr rfl (e_fn c_check_modulus hr (by decide) (takes_of rfl rfl rfl rfl) (a_cons (e_var 1) a_nil) (al_cons al_nil)))
 (ss_one (s_ret (Γ' := [0, 0]) rfl (e_op2 (n := 0) op_fdivL od_div (e_op2 op_addD od_add (e_op2 op_mulD od_mul (e_int (n := 0)) (e_var 0)) (e_var 1)) (e_op2 op_mulD od_mul (e_int (n := 0)) (e_var 1)))))))
abbrev st_check_pair : Stmt := top 12
theorem sc_check_pair : FnScope ["a", "b"] ["a", "b"] (defScope st_check_pair) := ⟨rfl, rfl, rfl, by decide +kernel, rfl, by decide +kernel, by decide +kernel⟩
theorem ok_check_pair {P : Program} {w : World} {K : PySem.W.Frag} {mg : Str → Option Value} {base : Heap} {fA : Addr} {fd : FuncData} {dvs : List V} {kws : List (Str × V)} (t : Tx K mg) {C_OutOfRange : Addr} (g_OutOfRange : mg "OutOfRange" = some (.ref C_OutOfRange)) (c_check_size : FnS P w K mg base "check_size" 1 1 f_check_size 0 []) (F : FunD K "check_pair" "check_pair" (defArgs st_check_pair) (defBody st_check_pair) (defScope st_check_pair) dvs kws fA fd) :
    FnOk P w K mg base (L2.CX P w) 2 fA fd ["a", "b"] (spF ⟨K, mg, none⟩ 2 f_check_pair 0) := by
  have nd := (sc_check_pair).nd
  exact fn_ok (Γ := [0, 0]) (Γ' := [0, 0]) F sc_check_pair rfl rfl (fun cdv A outer s H E hr => by
    unfold b_check_pair
    exact (ss_cons (s_expr rfl (e_fn c_check_size hr (by decide) (takes_of rfl rfl rfl rfl) (a_cons (e_len (n := 0) t.blt.len (a_cons (e_var 0) a_nil)) a_nil) (al_cons al_nil)))
 (ss_one (s_if (Γ' := [0, 0]) rfl (q_cmp (op_neD hr.units) ob_ne (e_len (n := 0) t.blt.len (a_cons (e_var 0) a_nil)) (e_len (n := 0) t.blt.len (a_cons (e_var 1) a_nil)) (nomark _))
 (ss_one (s_raise (Γ' := [0, 0]) .range rfl rfl rfl (takes_of rfl rfl rfl rfl) (t.er.erc .range _ g_OutOfRange rfl)))
 (ss_nil)))))
abbrev st_zero : Stmt := top 13
theorem sc_zero : FnScope ["size"] ["size"] (defScope st_zero) := ⟨rfl, rfl, rfl, by decide +kernel, rfl, by decide +kernel, by decide +kernel⟩
theorem ok_zero {P : Program} {w : World} {K : PySem.W.Frag} {mg : Str → Option Value} {base : Heap} {fA : Addr} {fd : FuncData} {dvs : List V} {kws : List (Str × V)} (t : Tx K mg)  (c_check_size : FnS P w K mg base "check_size" 1 1 f_check_size 0 []) (F : FunD K "zero" "zero" (defArgs st_zero) (defBody st_zero) (defScope st_zero) dvs kws fA fd) :
    FnOk P w K mg base (L2.CX P w) 2 fA fd ["size"] (spF ⟨K, mg, none⟩ 1 f_zero 0) := by
  have nd := (sc_zero).nd
  exact fn_ok (Γ := [0]) (Γ' := [0]) F sc_zero rfl rfl (fun cdv A outer s H E hr => by
    unfold b_zero
    exact (ss_cons (s_expr rfl (e_fn c_check_size hr (by decide) (takes_of rfl rfl rfl rfl) (a_cons (e_var 0) a_nil) (al_cons al_nil)))
 (ss_one (s_ret (Γ' := [0]) rfl (e_fz (e_op2 op_mulD od_mul (e_lst (a_cons (e_int (n := 0)) a_nil)) (e_var 0)))))))
abbrev st_shift : Stmt := top 16
theorem sc_shift : FnScope ["a", "k", "size", "result", "i", "one", "place"] ["a", "k"] (defScope st_shift) := ⟨rfl, rfl, rfl, by decide +kernel, rfl, by decide +kernel, by decide +kernel⟩
theorem ok_shift {P : Program} {w : World} {K : PySem.W.Frag} {mg : Str → Option Value} {base : Heap} {fA : Addr} {fd : FuncData} {dvs : List V} {kws : List (Str × V)} (t : Tx K mg)  (c_check_size : FnS P w K mg base "check_size" 1 1 f_check_size 0 []) (F : FunD K "shift" "shift" (defArgs st_shift) (defBody st_shift) (defScope st_shift) dvs kws fA fd) :
    FnOk P w K mg base (L2.CX P w) 2 fA fd ["a", "k"] (spF ⟨K, mg, none⟩ 2 f_shift 0) := by
  have nd := (sc_shift).nd
  exact fn_ok (Γ := [0, 0, 0, 0, 0, 0, 0]) (Γ' := [0, 0, 0, 0, 0, 0, 0]) F sc_shift rfl rfl (fun cdv A outer s H E hr => by
    unfold b_shift w_shift_0
    exact (ss_cons (s_expr rfl (e_fn c_check_size hr (by decide) (takes_of rfl rfl rfl rfl) (a_cons (e_len (n := 0) t.blt.len (a_cons (e_var 0) a_nil)) a_nil) (al_cons al_nil)))
 (ss_cons (s_asg (Γ' := [0, 0, 0, 0, 0, 0, 0]) 2 rfl nd (e_len (n := 0) t.blt.len (a_cons (e_var 0) a_nil)) rfl)
 (ss_cons (s_asg (Γ' := [0, 0, 0, 1, 0, 0, 0]) 3 rfl nd (e_op2 op_mulD od_mul (e_lst (a_cons (e_int (n := 0)) a_nil)) (e_var 2)) rfl)
 (ss_cons (s_for [false, false, false, false, false, false, false] rfl (passes_of rfl) rfl (i_enum t.blt.enumerate (e_var 0)) (g_tup rfl (gs_cons (g_name 4 nd) (gs_cons (g_name 5 nd) gs_nil)) (bl_cons (bl_cons bl_nil))) (Γ' := [0, 0, 0, 0, 0, 0, 0]) rfl
 (ss_cons (s_asg (Γ' := [0, 0, 0, 1, 0, 0, 0]) 6 rfl nd (e_op2 (n := 0) op_mod od_mod (e_op2 op_addD od_add (e_var 4) (e_var 1)) (e_op2 op_mulD od_mul (e_int (n := 0)) (e_var 2))) rfl)
 (ss_one (s_if (Γ' := [0, 0, 0, 1, 0, 0, 0]) rfl (q_cmp op_lt opd_B0 (e_var 6) (e_var 2) (nomark _))
 (ss_one (s_set 3 rfl (e_var 5) (e_var 6)))
 (ss_one (s_set 3 rfl (e_un (n := 0) un_neg ud_neg (e_var 5)) (e_op2 (n := 0) op_sub od_sub (e_var 6) (e_var 2))))))))
 (ss_one (s_ret (Γ' := [0, 0, 0, 0, 0, 0, 0]) rfl (e_var 3))))))))
abbrev st_turn : Stmt := top 17
theorem sc_turn : FnScope ["a", "k", "size", "result", "i", "one", "place"] ["a", "k"] (defScope st_turn) := ⟨rfl, rfl, rfl, by decide +kernel, rfl, by decide +kernel, by decide +kernel⟩
theorem ok_turn {P : Program} {w : World} {K : PySem.W.Frag} {mg : Str → Option Value} {base : Heap} {fA : Addr} {fd : FuncData} {dvs : List V} {kws : List (Str × V)} (t : Tx K mg) {C_OutOfRange : Addr} (g_OutOfRange : mg "OutOfRange" = some (.ref C_OutOfRange)) (c_check_size : FnS P w K mg base "check_size" 1 1 f_check_size 0 []) (F : FunD K "turn" "turn" (defArgs st_turn) (defBody st_turn) (defScope st_turn) dvs kws fA fd) :
    FnOk P w K mg base (L2.CX P w) 2 fA fd ["a", "k"] (spF ⟨K, mg, none⟩ 2 f_turn 0) := by
  have nd := (sc_turn).nd
  exact fn_ok (Γ := [0, 0, 0, 0, 0, 0, 0]) (Γ' := [0, 0, 0, 0, 0, 0, 0]) F sc_turn rfl rfl (fun cdv A outer s H E hr => by
    unfold b_turn w_turn_0
    exact (ss_cons (s_expr rfl (e_fn c_check_size hr (by decide) (takes_of rfl rfl rfl rfl) (a_cons (e_len (n := 0) t.blt.len (a_cons (e_var 0) a_nil)) a_nil) (al_cons al_nil)))
 (ss_cons (s_if (Γ' := [0, 0, 0, 0, 0, 0, 0]) rfl (q_cmp (op_eqD hr.units) ob_eq (e_op2 (n := 0) op_mod od_mod (e_var 1) (e_int (n := 0))) (e_int (n := 0)) (nomark _))
 (ss_one (s_raise (Γ' := [0, 0, 0, 0, 0, 0, 0]) .range rfl rfl rfl (takes_of rfl rfl rfl rfl) (t.er.erc .range _ g_OutOfRange rfl)))
 (ss_nil))
 (ss_cons (s_asg (Γ' := [0, 0, 0, 0, 0, 0, 0]) 2 rfl nd (e_len (n := 0) t.blt.len (a_cons (e_var 0) a_nil)) rfl)
 (ss_cons (s_asg (Γ' := [0, 0, 0, 1, 0, 0, 0]) 3 rfl nd (e_op2 op_mulD od_mul (e_lst (a_cons (e_int (n := 0)) a_nil)) (e_var 2)) rfl)
 (ss_cons (s_for [false, false, false, false, false, false, false] rfl (passes_of rfl) rfl (i_enum t.blt.enumerate (e_var 0)) (g_tup rfl (gs_cons (g_name 4 nd) (gs_cons (g_name 5 nd) gs_nil)) (bl_cons (bl_cons bl_nil))) (Γ' := [0, 0, 0, 0, 0, 0, 0]) rfl
 (ss_cons (s_asg (Γ' := [0, 0, 0, 1, 0, 0, 0]) 6 rfl nd (e_op2 (n := 0) op_mod od_mod (e_op2 op_mulD od_mul (e_var 4) (e_var 1)) (e_op2 op_mulD od_mul (e_int (n := 0)) (e_var 2))) rfl)
 (ss_one (s_if (Γ' := [0, 0, 0, 1, 0, 0, 0]) rfl (q_cmp op_lt opd_B0 (e_var 6) (e_var 2) (nomark _))
 (ss_one (s_set 3 rfl (e_var 5) (e_var 6)))
 (ss_one (s_set 3 rfl (e_un (n := 0) un_neg ud_neg (e_var 5)) (e_op2 (n := 0) op_sub od_sub (e_var 6) (e_var 2))))))))
 (ss_one (s_ret (Γ' := [0, 0, 0, 0, 0, 0, 0]) rfl (e_var 3)))))))))
abbrev st_norm : Stmt := top 18
theorem sc_norm : FnScope ["a", "one"] ["a"] (defScope st_norm) := ⟨rfl, rfl, rfl, by decide +kernel, rfl, by decide +kernel, by decide +kernel⟩
theorem ok_norm {P : Program} {w : World} {K : PySem.W.Frag} {mg : Str → Option Value} {base : Heap} {fA : Addr} {fd : FuncData} {dvs : List V} {kws : List (Str × V)} (t : Tx K mg)  (c_check_size : FnS P w K mg base "check_size" 1 1 f_check_size 0 []) (F : FunD K "norm" "norm" (defArgs st_norm) (defBody st_norm) (defScope st_norm) dvs kws fA fd) :
    FnOk P w K mg base (L2.CX P w) 2 fA fd ["a"] (spF ⟨K, mg, none⟩ 1 f_norm 0) := by
  have nd := (sc_norm).nd
  exact fn_ok (Γ := [0, 0]) (Γ' := [0, 0]) F sc_norm rfl rfl (fun cdv A outer s H E hr => by
    unfold b_norm c_norm_0
    exact (ss_cons (s_expr rfl (e_fn c_check_size hr (by decide) (takes_of rfl rfl rfl rfl) (a_cons (e_len (n := 0) t.blt.len (a_cons (e_var 0) a_nil)) a_nil) (al_cons al_nil)))
 (ss_one (s_ret (Γ' := [0, 0]) rfl (e_max (n := 0) t.blt.max (a_cons (e_comp rfl nd (i_seq (e_var 0)) (blkOk_by (own := [(("one" : Str), 1)]) (by kernel_rfl)) (by decide) (fun _ _ _ _ _ => (g_name 1 nd)) (fun _ _ _ _ _ => t_nil) (fun _ _ _ _ _ => (e_abs (n := 0) t.blt.abs (a_cons (e_var 1) a_nil)))) a_nil))))))
abbrev st_norm_one : Stmt := top 19
theorem sc_norm_one : FnScope ["a", "one"] ["a"] (defScope st_norm_one) := ⟨rfl, rfl, rfl, by decide +kernel, rfl, by decide +kernel, by decide +kernel⟩
theorem ok_norm_one {P : Program} {w : World} {K : PySem.W.Frag} {mg : Str → Option Value} {base : Heap} {fA : Addr} {fd : FuncData} {dvs : List V} {kws : List (Str × V)} (t : Tx K mg)  (c_check_size : FnS P w K mg base "check_size" 1 1 f_check_size 0 []) (F : FunD K "norm_one" "norm_one" (defArgs st_norm_one) (defBody st_norm_one) (defScope st_norm_one) dvs kws fA fd) :
    FnOk P w K mg base (L2.CX P w) 2 fA fd ["a"] (spF ⟨K, mg, none⟩ 1 f_norm_one 0) := by
  have nd := (sc_norm_one).nd
  exact fn_ok (Γ := [0, 0]) (Γ' := [0, 0]) F sc_norm_one rfl rfl (fun cdv A outer s H E hr => by
    unfold b_norm_one c_norm_one_0
    exact (ss_cons (s_expr rfl (e_fn c_check_size hr (by decide) (takes_of rfl rfl rfl rfl) (a_cons (e_len (n := 0) t.blt.len (a_cons (e_var 0) a_nil)) a_nil) (al_cons al_nil)))
 (ss_one (s_ret (Γ' := [0, 0]) rfl (e_sum (n := 0) t.blt.sum (a_cons (e_comp rfl nd (i_seq (e_var 0)) (blkOk_by (own := [(("one" : Str), 1)]) (by kernel_rfl)) (by decide) (fun _ _ _ _ _ => (g_name 1 nd)) (fun _ _ _ _ _ => t_nil) (fun _ _ _ _ _ => (e_abs (n := 0) t.blt.abs (a_cons (e_var 1) a_nil)))) a_nil))))))
abbrev st_worst_partner : Stmt := top 20
theorem sc_worst_partner : FnScope ["a", "place", "size", "result", "i", "one", "j", "sign"] ["a", "place", "size"] (defScope st_worst_partner) := ⟨rfl, rfl, rfl, by decide +kernel, rfl, by decide +kernel, by decide +kernel⟩
theorem ok_worst_partner {P : Program} {w : World} {K : PySem.W.Frag} {mg : Str → Option Value} {base : Heap} {fA : Addr} {fd : FuncData} {dvs : List V} {kws : List (Str × V)} (t : Tx K mg) {C_OutOfRange : Addr} (g_OutOfRange : mg "OutOfRange" = some (.ref C_OutOfRange)) (c_check_size : FnS P w K mg base "check_size" 1 1 f_check_size 0 []) (F : FunD K "worst_partner" "worst_partner" (defArgs st_worst_partner) (defBody st_worst_partner) (defScope st_worst_partner) dvs kws fA fd) :
    FnOk P w K mg base (L2.CX P w) 2 fA fd ["a", "place", "size"] (spF ⟨K, mg, none⟩ 3 f_worst_partner 0) := by
  have nd := (sc_worst_partner).nd
  exact fn_ok (Γ := [0, 0, 0, 0, 0, 0, 0, 0]) (Γ' := [0, 0, 0, 0, 0, 0, 0, 0]) F sc_worst_partner rfl rfl (fun cdv A outer s H E hr => by
    unfold b_worst_partner w_worst_partner_0
    exact (ss_cons (s_expr rfl (e_fn c_check_size hr (by decide) (takes_of rfl rfl rfl rfl) (a_cons (e_len (n := 0) t.blt.len (a_cons (e_var 0) a_nil)) a_nil) (al_cons al_nil)))
 (ss_cons (s_if (Γ' := [0, 0, 0, 0, 0, 0, 0, 0]) rfl (q_not (q_chain op_le op_lt opd_B0 opd_B0 (e_int (n := 0)) (e_var 1) (e_len (n := 0) t.blt.len (a_cons (e_var 0) a_nil))))
 (ss_one (s_raise (Γ' := [0, 0, 0, 0, 0, 0, 0, 0]) .range rfl rfl rfl (takes_of rfl rfl rfl rfl) (t.er.erc .range _ g_OutOfRange rfl)))
 (ss_nil))
 (ss_cons (s_if (Γ' := [0, 0, 0, 0, 0, 0, 0, 0]) rfl (q_cmp op_lt opd_B0 (e_var 2) (e_int (n := 0)) (nomark _))
 (ss_one (s_raise (Γ' := [0, 0, 0, 0, 0, 0, 0, 0]) .range rfl rfl rfl (takes_of rfl rfl rfl rfl) (t.er.erc .range _ g_OutOfRange rfl)))
 (ss_nil))
 (ss_cons (s_asg (Γ' := [0, 0, 0, 1, 0, 0, 0, 0]) 3 rfl nd (e_op2 op_mulD od_mul (e_lst (a_cons (e_var 2) a_nil)) (e_len (n := 0) t.blt.len (a_cons (e_var 0) a_nil))) rfl)
 (ss_cons (s_for [false, false, false, false, false, false, false, false] rfl (passes_of rfl) rfl (i_enum t.blt.enumerate (e_var 0)) (g_tup rfl (gs_cons (g_name 4 nd) (gs_cons (g_name 5 nd) gs_nil)) (bl_cons (bl_cons bl_nil))) (Γ' := [0, 0, 0, 0, 0, 0, 0, 0]) rfl
 (ss_cons (s_asg (Γ' := [0, 0, 0, 1, 0, 0, 0, 0]) 6 rfl nd (e_op2 (n := 0) op_sub od_sub (e_var 1) (e_var 4)) rfl)
 (ss_cons (s_asg (Γ' := [0, 0, 0, 1, 0, 0, 0, 0]) 7 rfl nd (e_if (q_cmp op_ge opd_B0 (e_var 5) (e_int (n := 0)) (nomark _)) (e_int (n := 0)) (e_un (n := 0) un_neg ud_neg (e_int (n := 0)))) rfl)
 (ss_one (s_if (Γ' := [0, 0, 0, 1, 0, 0, 0, 0]) rfl (q_cmp op_ge opd_B0 (e_var 6) (e_int (n := 0)) (nomark _))
 (ss_one (s_set 3 rfl (e_op2 op_mulD od_mul (e_var 7) (e_var 2)) (e_var 6)))
 (ss_one (s_if (Γ' := [0, 0, 0, 1, 0, 0, 0, 0]) rfl (q_cmp (op_neD hr.units) ob_ne (e_var 5) (e_int (n := 0)) (nomark _))
 (ss_one (s_set 3 rfl (e_op2 op_mulD od_mul (e_un (n := 0) un_neg ud_neg (e_var 7)) (e_var 2)) (e_op2 op_addD od_add (e_var 6) (e_len (n := 0) t.blt.len (a_cons (e_var 0) a_nil)))))
 (ss_nil))))))))
 (ss_one (s_ret (Γ' := [0, 0, 0, 0, 0, 0, 0, 0]) rfl (e_var 3)))))))))
abbrev st_residues : Stmt := top 21
theorem sc_residues : FnScope ["a", "k", "one"] ["a", "k"] (defScope st_residues) := ⟨rfl, rfl, rfl, by decide +kernel, rfl, by decide +kernel, by decide +kernel⟩
theorem ok_residues {P : Program} {w : World} {K : PySem.W.Frag} {mg : Str → Option Value} {base : Heap} {fA : Addr} {fd : FuncData} {dvs : List V} {kws : List (Str × V)} (t : Tx K mg)  (c_check_size : FnS P w K mg base "check_size" 1 1 f_check_size 0 []) (c_check_modulus : FnS P w K mg base "check_modulus" 1 1 f_check_modulus 0 []) (F : FunD K "residues" "residues" (defArgs st_residues) (defBody st_residues) (defScope st_residues) dvs kws fA fd) :
    FnOk P w K mg base (L2.CX P w) 2 fA fd ["a", "k"] (spF ⟨K, mg, none⟩ 2 f_residues 0) := by
  have nd := (sc_residues).nd
  exact fn_ok (Γ := [0, 0, 0]) (Γ' := [0, 0, 0]) F sc_residues rfl rfl (fun cdv A outer s H E hr => by
    unfold b_residues c_residues_0
    exact (ss_cons (s_expr rfl (e_fn c_check_size hr (by decide) (takes_of rfl rfl rfl rfl) (a_cons (e_len (n := 0) t.blt.len (a_cons (e_var 0) a_nil)) a_nil) (al_cons al_nil)))
 (ss_cons (s_expr rfl (e_fn c_check_modulus hr (by decide) (takes_of rfl rfl rfl rfl) (a_cons (e_var 1) a_nil) (al_cons al_nil)))
 (ss_one (s_ret (Γ' := [0, 0, 0]) rfl (e_fz (e_comp rfl nd (i_seq (e_var 0)) (blkOk_by (own := [(("one" : Str), 2)]) (by kernel_rfl)) (by decide) (fun _ _ _ _ _ => (g_name 2 nd)) (fun _ _ _ _ _ => t_nil) (fun _ _ _ _ _ => (e_op2 (n := 0) op_mod od_mod (e_var 2) (e_var 1))))))))))
abbrev st__law_is_list : Stmt := top 30
theorem sc__law_is_list : FnScope ["actual", "due", "one", "other"] ["actual", "due"] (defScope st__law_is_list) := ⟨rfl, rfl, rfl, by decide +kernel, rfl, by decide +kernel, by decide +kernel⟩
theorem ok__law_is_list {P : Program} {w : World} {K : PySem.W.Frag} {mg : Str → Option Value} {base : Heap} {fA : Addr} {fd : FuncData} {dvs : List V} {kws : List (Str × V)} (t : Tx K mg)  (c__law_integer : FnS P w K mg base "_law_integer" 1 1 f__law_integer 0 []) (F : FunD K "_law_is_list" "_law_is_list" (defArgs st__law_is_list) (defBody st__law_is_list) (defScope st__law_is_list) dvs kws fA fd) :
    FnOk P w K mg base (L2.CX P w) 2 fA fd ["actual", "due"] (spF ⟨K, mg, none⟩ 2 f__law_is_list 0) := by
  have nd := (sc__law_is_list).nd
  exact fn_ok (Γ := [0, 0, 0, 0]) (Γ' := [0, 0, 0, 0]) F sc__law_is_list rfl rfl (fun cdv A outer s H E hr => by
    unfold b__law_is_list w__law_is_list_0
    exact (ss_cons (s_if (Γ' := [0, 0, 0, 0]) rfl (q_w (w_or (q_not (q_tru (e_isTy (n := 0) t.blt.isi t.blt.list bt_list (e_var 0)))) (w_or1 (q_cmp (op_neD hr.units) ob_ne (e_len (n := 0) t.blt.len (a_cons (e_var 0) a_nil)) (e_len (n := 0) t.blt.len (a_cons (e_var 1) a_nil)) (nomark _)))))
 (ss_one (s_ret (Γ' := [0, 0, 0, 0]) rfl (e_bl (n := 0))))
 (ss_nil))
 (ss_cons (s_for [false, false, false, false] rfl (passes_of rfl) rfl (i_zip t.blt.zip (e_var 0) (e_var 1)) (g_tup rfl (gs_cons (g_name 2 nd) (gs_cons (g_name 3 nd) gs_nil)) (bl_cons (bl_cons bl_nil))) (Γ' := [0, 0, 0, 0]) rfl
 (ss_one (s_if (Γ' := [0, 0, 0, 0]) rfl (q_w (w_or (q_not (q_tru (e_fn c__law_integer hr (by decide) (takes_of rfl rfl rfl rfl) (a_cons (e_var 2) a_nil) (al_cons al_nil)))) (w_or1 (q_cmp (op_neD hr.units) ob_ne (e_var 2) (e_var 3) (nomark _)))))
 (ss_one (s_ret (Γ' := [0, 0, 0, 0]) rfl (e_bl (n := 0))))
 (ss_nil))))
 (ss_one (s_ret (Γ' := [0, 0, 0, 0]) rfl (e_bl (n := 0)))))))
abbrev st__law_wide : Stmt := top 31
theorem sc__law_wide : FnScope ["cell", "k", "most", "number", "j"] ["cell", "k", "most"] (defScope st__law_wide) := ⟨rfl, rfl, rfl, by decide +kernel, rfl, by decide +kernel, by decide +kernel⟩
theorem ok__law_wide {P : Program} {w : World} {K : PySem.W.Frag} {mg : Str → Option Value} {base : Heap} {fA : Addr} {fd : FuncData} {dvs : List V} {kws : List (Str × V)} (t : Tx K mg)  (c__law_mixed : FnS P w K mg base "_law_mixed" 1 2 f__law_mixed 0 []) (F : FunD K "_law_wide" "_law_wide" (defArgs st__law_wide) (defBody st__law_wide) (defScope st__law_wide) dvs kws fA fd) :
    FnOk P w K mg base (L2.CX P w) 2 fA fd ["cell", "k", "most"] (spF ⟨K, mg, none⟩ 3 f__law_wide 0) := by
  have nd := (sc__law_wide).nd
  exact fn_ok (Γ := [0, 0, 0, 0, 0]) (Γ' := [0, 0, 0, 0, 0]) F sc__law_wide rfl rfl (fun cdv A outer s H E hr => by
    unfold b__law_wide w__law_wide_0
    exact (ss_cons (s_asg (Γ' := [0, 0, 0, 0, 0]) 3 rfl nd (e_fz (e_op2 op_addD od_add (e_op2 op_mulD od_mul (e_fn c__law_mixed hr (by decide) (takes_of rfl rfl rfl rfl) (a_cons (e_var 0) (a_cons (e_var 1) a_nil)) (al_cons (al_cons al_nil))) (e_int (n := 0))) (e_fn c__law_mixed hr (by decide) (takes_of rfl rfl rfl rfl) (a_cons (e_var 0) (a_cons (e_op2 op_addD od_add (e_var 1) (e_int (n := 0))) a_nil)) (al_cons (al_cons al_nil))))) rfl)
 (ss_cons (s_if (Γ' := [0, 0, 0, 0, 0]) rfl (q_cmp op_ge opd_B0 (e_var 2) (e_op2 (n := 0) op_shlW od_shl (e_int (n := 0)) (e_int (n := 0))) (nomark _))
 (ss_one (s_for [false, false, false, false, false] rfl (passes_of rfl) rfl (i_range2 t.blt.range (e_int (n := 0)) (e_int (n := 0))) (g_name 4 nd) (Γ' := [0, 0, 0, 0, 0]) rfl
 (ss_one (s_asg (Γ' := [0, 0, 0, 0, 0]) 3 rfl nd (e_fz (e_op2 op_addD od_add (e_op2 op_mulD od_mul (e_var 3) (e_int (n := 0))) (e_fn c__law_mixed hr (by decide) (takes_of rfl rfl rfl rfl) (a_cons (e_var 0) (a_cons (e_op2 op_addD od_add (e_var 1) (e_op2 op_mulD od_mul (e_int (n := 0)) (e_var 4))) a_nil)) (al_cons (al_cons al_nil))))) rfl))))
 (ss_nil))
 (ss_one (s_ret (Γ' := [0, 0, 0, 0, 0]) rfl (e_int' (n := 0) t.blt.int (a_cons (e_var 3) a_nil)))))))
abbrev st_digits : Stmt := top 9
theorem sc_digits : FnScope ["v", "base", "count", "found", "_", "digit"] ["v", "base", "count"] (defScope st_digits) := ⟨rfl, rfl, rfl, by decide +kernel, rfl, by decide +kernel, by decide +kernel⟩
theorem ok_digits {P : Program} {w : World} {K : PySem.W.Frag} {mg : Str → Option Value} {base : Heap} {fA : Addr} {fd : FuncData} {dvs : List V} {kws : List (Str × V)} (t : Tx K mg)  (c_check_digits : FnS P w K mg base "check_digits" 1 2 f_check_digits 0 []) (c_centred : FnS P w K mg base "centred" 2 2 f_centred 0 []) (F : FunD K "digits" "digits" (defArgs st_digits) (defBody st_digits) (defScope st_digits) dvs kws fA fd) :
    FnOk P w K mg base (L2.CX P w) 3 fA fd ["v", "base", "count"] (spF ⟨K, mg, none⟩ 3 f_digits 0) := by
  have nd := (sc_digits).nd
  exact fn_ok (Γ := [0, 0, 0, 0, 0, 0]) (Γ' := [0, 0, 0, 0, 0, 0]) F sc_digits rfl rfl (fun cdv A outer s H E hr => by
    unfold b_digits w_digits_0
    exact (ss_cons (s_expr rfl (e_fn c_check_digits hr (by decide) (takes_of rfl rfl rfl rfl) (a_cons (e_var 1) (a_cons (e_var 2) a_nil)) (al_cons (al_cons al_nil))))
 (ss_cons (s_asg (Γ' := [0, 0, 0, 1, 0, 0]) 3 rfl nd (e_lst a_nil) rfl)
 (ss_cons (s_for [false, false, false, false, false, false] rfl (passes_of rfl) rfl (i_range1 t.blt.range (e_var 2)) (g_name 4 nd) (Γ' := [0, 0, 0, 0, 0, 0]) rfl
 (ss_cons (s_asg (Γ' := [0, 0, 0, 1, 0, 0]) 5 rfl nd (e_fn c_centred hr (by decide) (takes_of rfl rfl rfl rfl) (a_cons (e_var 0) (a_cons (e_var 1) a_nil)) (al_cons (al_cons al_nil))) rfl)
 (ss_cons (s_app 3 rfl (e_var 5))
 (ss_one (s_asg (Γ' := [0, 0, 0, 1, 0, 0]) 0 rfl nd (e_op2 (n := 0) op_fdivL od_div (e_op2 (n := 0) op_sub od_sub (e_var 0) (e_var 5)) (e_var 1)) rfl)))))
 (ss_one (s_ret (Γ' := [0, 0, 0, 0, 0, 0]) rfl (e_tup (n := 0) (a_cons (e_var 3) (a_cons (e_var 0) a_nil)))))))))
abbrev st_add : Stmt := top 14
theorem sc_add : FnScope ["a", "b", "one", "other"] ["a", "b"] (defScope st_add) := ⟨rfl, rfl, rfl, by decide +kernel, rfl, by decide +kernel, by decide +kernel⟩
theorem ok_add {P : Program} {w : World} {K : PySem.W.Frag} {mg : Str → Option Value} {base : Heap} {fA : Addr} {fd : FuncData} {dvs : List V} {kws : List (Str × V)} (t : Tx K mg)  (c_check_pair : FnS P w K mg base "check_pair" 2 2 f_check_pair 0 []) (F : FunD K "add" "add" (defArgs st_add) (defBody st_add) (defScope st_add) dvs kws fA fd) :
    FnOk P w K mg base (L2.CX P w) 3 fA fd ["a", "b"] (spF ⟨K, mg, none⟩ 2 f_add 0) := by
  have nd := (sc_add).nd
  exact fn_ok (Γ := [0, 0, 0, 0]) (Γ' := [0, 0, 0, 0]) F sc_add rfl rfl (fun cdv A outer s H E hr => by
    unfold b_add c_add_0
    exact (ss_cons (s_expr rfl (e_fn c_check_pair hr (by decide) (takes_of rfl rfl rfl rfl) (a_cons (e_var 0) (a_cons (e_var 1) a_nil)) (al_cons (al_cons al_nil))))
 (ss_one (s_ret (Γ' := [0, 0, 0, 0]) rfl (e_fz (e_comp rfl nd (i_zip t.blt.zip (e_var 0) (e_var 1)) (blkOk_by (own := [(("one" : Str), 2), (("other" : Str), 3)]) (by kernel_rfl)) (by decide) (fun _ _ _ _ _ => (g_tup rfl (gs_cons (g_name 2 nd) (gs_cons (g_name 3 nd) gs_nil)) (bl_cons (bl_cons bl_nil)))) (fun _ _ _ _ _ => t_nil) (fun _ _ _ _ _ => (e_fz (e_op2 op_addD od_add (e_var 2) (e_var 3))))))))))
abbrev st_multiply : Stmt := top 15
theorem sc_multiply : FnScope ["a", "b", "size", "result", "i", "one", "j", "other"] ["a", "b"] (defScope st_multiply) := ⟨rfl, rfl, rfl, by decide +kernel, rfl, by decide +kernel, by decide +kernel⟩
theorem ok_multiply {P : Program} {w : World} {K : PySem.W.Frag} {mg : Str → Option Value} {base : Heap} {fA : Addr} {fd : FuncData} {dvs : List V} {kws : List (Str × V)} (t : Tx K mg)  (c_check_pair : FnS P w K mg base "check_pair" 2 2 f_check_pair 0 []) (F : FunD K "multiply" "multiply" (defArgs st_multiply) (defBody st_multiply) (defScope st_multiply) dvs kws fA fd) :
    FnOk P w K mg base (L2.CX P w) 3 fA fd ["a", "b"] (spF ⟨K, mg, none⟩ 2 f_multiply 0) := by
  have nd := (sc_multiply).nd
  exact fn_ok (Γ := [0, 0, 0, 0, 0, 0, 0, 0]) (Γ' := [0, 0, 0, 0, 0, 0, 0, 0]) F sc_multiply rfl rfl (fun cdv A outer s H E hr => by
    unfold b_multiply w_multiply_1 w_multiply_0
    exact (ss_cons (s_expr rfl (e_fn c_check_pair hr (by decide) (takes_of rfl rfl rfl rfl) (a_cons (e_var 0) (a_cons (e_var 1) a_nil)) (al_cons (al_cons al_nil))))
 (ss_cons (s_asg (Γ' := [0, 0, 0, 0, 0, 0, 0, 0]) 2 rfl nd (e_len (n := 0) t.blt.len (a_cons (e_var 0) a_nil)) rfl)
 (ss_cons (s_asg (Γ' := [0, 0, 0, 1, 0, 0, 0, 0]) 3 rfl nd (e_op2 op_mulD od_mul (e_lst (a_cons (e_int (n := 0)) a_nil)) (e_var 2)) rfl)
 (ss_cons (s_for [false, false, false, false, false, false, false, false] rfl (passes_of rfl) rfl (i_enum t.blt.enumerate (e_var 0)) (g_tup rfl (gs_cons (g_name 4 nd) (gs_cons (g_name 5 nd) gs_nil)) (bl_cons (bl_cons bl_nil))) (Γ' := [0, 0, 0, 0, 0, 0, 0, 0]) rfl
 (ss_one (s_if (Γ' := [0, 0, 0, 1, 0, 0, 0, 0]) rfl (q_cmp (op_neD hr.units) ob_ne (e_var 5) (e_int (n := 0)) (nomark _))
 (ss_one (s_for [false, false, false, true, false, false, false, false] rfl (passes_of rfl) rfl (i_enum t.blt.enumerate (e_var 1)) (g_tup rfl (gs_cons (g_name 6 nd) (gs_cons (g_name 7 nd) gs_nil)) (bl_cons (bl_cons bl_nil))) (Γ' := [0, 0, 0, 1, 0, 0, 0, 0]) rfl
 (ss_one (s_if (Γ' := [0, 0, 0, 1, 0, 0, 0, 0]) rfl (q_cmp op_lt opd_B0 (e_op2 op_addD od_add (e_var 4) (e_var 6)) (e_var 2) (nomark _))
 (ss_one (s_set 3 rfl (e_op2 op_addD od_add (e_ixO 3 (e_op2 op_addD od_add (e_var 4) (e_var 6))) (e_op2 op_mulD od_mul (e_var 5) (e_var 7))) (e_op2 op_addD od_add (e_var 4) (e_var 6))))
 (ss_one (s_set 3 rfl (e_op2 (n := 0) op_sub od_sub (e_ixO 3 (e_op2 (n := 0) op_sub od_sub (e_op2 op_addD od_add (e_var 4) (e_var 6)) (e_var 2))) (e_op2 op_mulD od_mul (e_var 5) (e_var 7))) (e_op2 (n := 0) op_sub od_sub (e_op2 op_addD od_add (e_var 4) (e_var 6)) (e_var 2))))))))
 (ss_nil))))
 (ss_one (s_ret (Γ' := [0, 0, 0, 0, 0, 0, 0, 0]) rfl (e_var 3))))))))
abbrev st_centre : Stmt := top 22
theorem sc_centre : FnScope ["a", "k", "one"] ["a", "k"] (defScope st_centre) := ⟨rfl, rfl, rfl, by decide +kernel, rfl, by decide +kernel, by decide +kernel⟩
theorem ok_centre {P : Program} {w : World} {K : PySem.W.Frag} {mg : Str → Option Value} {base : Heap} {fA : Addr} {fd : FuncData} {dvs : List V} {kws : List (Str × V)} (t : Tx K mg)  (c_check_size : FnS P w K mg base "check_size" 1 1 f_check_size 0 []) (c_check_modulus : FnS P w K mg base "check_modulus" 1 1 f_check_modulus 0 []) (c_centred : FnS P w K mg base "centred" 2 2 f_centred 0 []) (F : FunD K "centre" "centre" (defArgs st_centre) (defBody st_centre) (defScope st_centre) dvs kws fA fd) :
    FnOk P w K mg base (L2.CX P w) 3 fA fd ["a", "k"] (spF ⟨K, mg, none⟩ 2 f_centre 0) := by
  have nd := (sc_centre).nd
  exact fn_ok (Γ := [0, 0, 0]) (Γ' := [0, 0, 0]) F sc_centre rfl rfl (fun cdv A outer s H E hr => by
    unfold b_centre c_centre_0
    exact (ss_cons (s_expr rfl (e_fn c_check_size hr (by decide) (takes_of rfl rfl rfl rfl) (a_cons (e_len (n := 0) t.blt.len (a_cons (e_var 0) a_nil)) a_nil) (al_cons al_nil)))
 (ss_cons (s_expr rfl (e_fn c_check_modulus hr (by decide) (takes_of rfl rfl rfl rfl) (a_cons (e_var 1) a_nil) (al_cons al_nil)))
 (ss_one (s_ret (Γ' := [0, 0, 0]) rfl (e_fz (e_comp rfl nd (i_seq (e_var 0)) (blkOk_by (own := [(("one" : Str), 2)]) (by kernel_rfl)) (by decide) (fun _ _ _ _ _ => (g_name 2 nd)) (fun _ _ _ _ _ => t_nil) (fun _ _ _ _ _ => (e_fn c_centred hr (by decide) takes0 (a_cons (e_var 2) (a_cons (e_var 1) a_nil)) (al_cons (al_cons al_nil)))))))))))
abbrev st_divide : Stmt := top 23
theorem sc_divide : FnScope ["a", "factor", "divisor", "one"] ["a", "factor", "divisor"] (defScope st_divide) := ⟨rfl, rfl, rfl, by decide +kernel, rfl, by decide +kernel, by decide +kernel⟩
theorem ok_divide {P : Program} {w : World} {K : PySem.W.Frag} {mg : Str → Option Value} {base : Heap} {fA : Addr} {fd : FuncData} {dvs : List V} {kws : List (Str × V)} (t : Tx K mg)  (c_check_size : FnS P w K mg base "check_size" 1 1 f_check_size 0 []) (c_check_modulus : FnS P w K mg base "check_modulus" 1 1 f_check_modulus 0 []) (c_round_div : FnS P w K mg base "round_div" 2 2 f_round_div 0 []) (F : FunD K "divide" "divide" (defArgs st_divide) (defBody st_divide) (defScope st_divide) dvs kws fA fd) :
    FnOk P w K mg base (L2.CX P w) 3 fA fd ["a", "factor", "divisor"] (spF ⟨K, mg, none⟩ 3 f_divide 0) := by
  have nd := (sc_divide).nd
  exact fn_ok (Γ := [0, 0, 0, 0]) (Γ' := [0, 0, 0, 0]) F sc_divide rfl rfl (fun cdv A outer s H E hr => by
    unfold b_divide c_divide_0
    exact (ss_cons (s_expr rfl (e_fn c_check_size hr (by decide) (takes_of rfl rfl rfl rfl) (a_cons (e_len (n := 0) t.blt.len (a_cons (e_var 0) a_nil)) a_nil) (al_cons al_nil)))
 (ss_cons (s_expr rfl (e_fn c_check_modulus hr (by decide) (takes_of rfl rfl rfl rfl) (a_cons (e_var 2) a_nil) (al_cons al_nil)))
 (ss_one (s_ret (Γ' := [0, 0, 0, 0]) rfl (e_fz (e_comp rfl nd (i_seq (e_var 0)) (blkOk_by (own := [(("one" : Str), 3)]) (by kernel_rfl)) (by decide) (fun _ _ _ _ _ => (g_name 3 nd)) (fun _ _ _ _ _ => t_nil) (fun _ _ _ _ _ => (e_fn c_round_div hr (by decide) takes0 (a_cons (e_op2 op_mulD od_mul (e_var 1) (e_var 3)) (a_cons (e_var 2) a_nil)) (al_cons (al_cons al_nil)))))))))))
abbrev st__law_poly : Stmt := top 32
theorem sc__law_poly : FnScope ["cell", "size", "most", "left", "great", "row", "k"] ["cell", "size", "most"] (defScope st__law_poly) := ⟨rfl, rfl, rfl, by decide +kernel, rfl, by decide +kernel, by decide +kernel⟩
theorem ok__law_poly {P : Program} {w : World} {K : PySem.W.Frag} {mg : Str → Option Value} {base : Heap} {fA : Addr} {fd : FuncData} {dvs : List V} {kws : List (Str × V)} (t : Tx K mg)  (c__law_wide : FnS P w K mg base "_law_wide" 2 3 f__law_wide 0 []) (F : FunD K "_law_poly" "_law_poly" (defArgs st__law_poly) (defBody st__law_poly) (defScope st__law_poly) dvs kws fA fd) :
    FnOk P w K mg base (L2.CX P w) 3 fA fd ["cell", "size", "most"] (spF ⟨K, mg, none⟩ 3 f__law_poly 0) := by
  have nd := (sc__law_poly).nd
  exact fn_ok (Γ := [0, 0, 0, 0, 0, 0, 0]) (Γ' := [0, 0, 0, 0, 0, 0, 0]) F sc__law_poly rfl rfl (fun cdv A outer s H E hr => by
    unfold b__law_poly w__law_poly_0
    exact (ss_cons (s_asg (Γ' := [0, 0, 0, 0, 0, 0, 0]) 3 rfl nd (e_abs (n := 0) t.blt.abs (a_cons (e_int' (n := 0) t.blt.int (a_cons (e_var 0) a_nil)) a_nil)) rfl)
 (ss_cons (s_asg (Γ' := [0, 0, 0, 0, 0, 0, 0]) 4 rfl nd (e_cmp (n := 0) op_ge opd_B0 (e_var 3) (e_op2 (n := 0) op_pow od_pow (e_int (n := 0)) (e_int (n := 0))) (nomark _)) rfl)
 (ss_cons (s_asg (Γ' := [0, 0, 0, 0, 0, 1, 0]) 5 rfl nd (e_lst a_nil) rfl)
 (ss_cons (s_for [false, false, false, false, false, false, false] rfl (passes_of rfl) rfl (i_range1 t.blt.range (e_var 1)) (g_name 6 nd) (Γ' := [0, 0, 0, 0, 0, 0, 0]) rfl
 (ss_one (s_if (Γ' := [0, 0, 0, 0, 0, 1, 0]) rfl (q_w (w_and (q_tru (e_var 4)) (w_and1 (q_cmp op_gt opd_B0 (e_var 3) (e_int (n := 0)) (nomark _)))))
 (ss_cons (s_app 5 rfl (e_op2 (n := 0) op_sub od_sub (e_int' (n := 0) t.blt.int (a_cons (e_op2 (n := 0) op_mod od_mod (e_var 3) (e_op2 op_addD od_add (e_op2 op_mulD od_mul (e_int (n := 0)) (e_var 2)) (e_int (n := 0)))) a_nil)) (e_var 2)))
 (ss_one (s_asg (Γ' := [0, 0, 0, 0, 0, 1, 0]) 3 rfl nd (e_op2 (n := 0) op_fdivL od_div (e_var 3) (e_op2 op_addD od_add (e_op2 op_mulD od_mul (e_int (n := 0)) (e_var 2)) (e_int (n := 0)))) rfl)))
 (ss_one (s_app 5 rfl (e_op2 (n := 0) op_sub od_sub (e_op2 (n := 0) op_mod od_mod (e_fn c__law_wide hr (by decide) (takes_of rfl rfl rfl rfl) (a_cons (e_var 0) (a_cons (e_var 6) (a_cons (e_var 2) a_nil))) (al_cons (al_cons (al_cons al_nil)))) (e_op2 op_addD od_add (e_op2 op_mulD od_mul (e_int (n := 0)) (e_var 2)) (e_int (n := 0)))) (e_var 2)))))))
 (ss_one (s_ret (Γ' := [0, 0, 0, 0, 0, 0, 0]) rfl (e_var 5))))))))
abbrev st__law_sizes : Stmt := top 35
theorem sc__law_sizes : FnScope ["a", "b", "k", "great", "total", "other", "product", "one"] ["a", "b", "k"] (defScope st__law_sizes) := ⟨rfl, rfl, rfl, by decide +kernel, rfl, by decide +kernel, by decide +kernel⟩
theorem ok__law_sizes {P : Program} {w : World} {K : PySem.W.Frag} {mg : Str → Option Value} {base : Heap} {fA : Addr} {fd : FuncData} {dvs : List V} {kws : List (Str × V)} (t : Tx K mg)  (c__law_integer : FnS P w K mg base "_law_integer" 1 1 f__law_integer 0 []) (c_norm : FnS P w K mg base "norm" 2 1 f_norm 0 []) (c_norm_one : FnS P w K mg base "norm_one" 2 1 f_norm_one 0 []) (c_turn : FnS P w K mg base "turn" 2 2 f_turn 0 []) (c_shift : FnS P w K mg base "shift" 2 2 f_shift 0 []) (c__law_times : FnS P w K mg base "_law_times" 1 2 f__law_times 0 []) (F : FunD K "_law_sizes" "_law_sizes" (defArgs st__law_sizes) (defBody st__law_sizes) (defScope st__law_sizes) dvs kws fA fd) :
    FnOk P w K mg base (L2.CX P w) 3 fA fd ["a", "b", "k"] (spF ⟨K, mg, none⟩ 3 f__law_sizes 0) := by
  have nd := (sc__law_sizes).nd
  exact fn_ok (Γ := [0, 0, 0, 0, 0, 0, 0, 0]) (Γ' := [0, 0, 0, 0, 0, 0, 0, 0]) F sc__law_sizes rfl rfl (fun cdv A outer s H E hr => by
    unfold b__law_sizes w__law_sizes_0 c__law_sizes_1 c__law_sizes_0
    exact (ss_cons (s_asg (Γ' := [0, 0, 0, 0, 0, 0, 0, 0]) 3 rfl nd (e_max (n := 0) t.blt.max (a_cons (e_comp rfl nd (i_seq (e_var 0)) (blkOk_by (own := [(("one" : Str), 7)]) (by kernel_rfl)) (by decide) (fun _ _ _ _ _ => (g_name 7 nd)) (fun _ _ _ _ _ => t_nil) (fun _ _ _ _ _ => (e_abs (n := 0) t.blt.abs (a_cons (e_var 7) a_nil)))) a_nil)) rfl)
 (ss_cons (s_asg (Γ' := [0, 0, 0, 0, 0, 0, 0, 0]) 4 rfl nd (e_sum (n := 0) t.blt.sum (a_cons (e_comp rfl nd (i_seq (e_var 0)) (blkOk_by (own := [(("one" : Str), 7)]) (by kernel_rfl)) (by decide) (fun _ _ _ _ _ => (g_name 7 nd)) (fun _ _ _ _ _ => t_nil) (fun _ _ _ _ _ => (e_abs (n := 0) t.blt.abs (a_cons (e_var 7) a_nil)))) a_nil)) rfl)
 (ss_cons (s_if (Γ' := [0, 0, 0, 0, 0, 0, 0, 0]) rfl (q_w (w_or (q_not (q_tru (e_fn c__law_integer hr (by decide) (takes_of rfl rfl rfl rfl) (a_cons (e_fn c_norm hr (by decide) (takes_of rfl rfl rfl rfl) (a_cons (e_var 0) a_nil) (al_cons al_nil)) a_nil) (al_cons al_nil)))) (w_or (q_cmp (op_neD hr.units) ob_ne (e_fn c_norm hr (by decide) (takes_of rfl rfl rfl rfl) (a_cons (e_var 0) a_nil) (al_cons al_nil)) (e_var 3) (nomark _)) (w_or (q_not (q_tru (e_fn c__law_integer hr (by decide) (takes_of rfl rfl rfl rfl) (a_cons (e_fn c_norm_one hr (by decide) (takes_of rfl rfl rfl rfl) (a_cons (e_var 0) a_nil) (al_cons al_nil)) a_nil) (al_cons al_nil)))) (w_or1 (q_cmp (op_neD hr.units) ob_ne (e_fn c_norm_one hr (by decide) (takes_of rfl rfl rfl rfl) (a_cons (e_var 0) a_nil) (al_cons al_nil)) (e_var 4) (nomark _)))))))
 (ss_one (s_ret (Γ' := [0, 0, 0, 0, 0, 0, 0, 0]) rfl (e_bl (n := 0))))
 (ss_nil))
 (ss_cons (s_for [false, false, false, false, false, false, false, false] rfl (passes_of rfl) rfl (i_seq (e_lst (a_cons (e_fn c_shift hr (by decide) (takes_of rfl rfl rfl rfl) (a_cons (e_var 0) (a_cons (e_var 2) a_nil)) (al_cons (al_cons al_nil))) (a_cons (e_fn c_turn hr (by decide) (takes_of rfl rfl rfl rfl) (a_cons (e_var 0) (a_cons (e_op2 op_addD od_add (e_op2 op_mulD od_mul (e_int (n := 0)) (e_var 2)) (e_int (n := 0))) a_nil)) (al_cons (al_cons al_nil))) a_nil)))) (g_name 5 nd) (Γ' := [0, 0, 0, 0, 0, 0, 0, 0]) rfl
 (ss_one (s_if (Γ' := [0, 0, 0, 0, 0, 0, 0, 0]) rfl (q_w (w_or (q_cmp (op_neD hr.units) ob_ne (e_fn c_norm hr (by decide) (takes_of rfl rfl rfl rfl) (a_cons (e_var 5) a_nil) (al_cons al_nil)) (e_var 3) (nomark _)) (w_or1 (q_cmp (op_neD hr.units) ob_ne (e_fn c_norm_one hr (by decide) (takes_of rfl rfl rfl rfl) (a_cons (e_var 5) a_nil) (al_cons al_nil)) (e_var 4) (nomark _)))))
 (ss_one (s_ret (Γ' := [0, 0, 0, 0, 0, 0, 0, 0]) rfl (e_bl (n := 0))))
 (ss_nil))))
 (ss_cons (s_if (Γ' := [0, 0, 0, 0, 0, 0, 0, 0]) rfl (q_cmp op_gt opd_B0 (e_len (n := 0) t.blt.len (a_cons (e_var 0) a_nil)) (e_int (n := 0)) (nomark _))
 (ss_one (s_ret (Γ' := [0, 0, 0, 0, 0, 0, 0, 0]) rfl (e_bl (n := 0))))
 (ss_nil))
 (ss_cons (s_asg (Γ' := [0, 0, 0, 0, 0, 0, 0, 0]) 6 rfl nd (e_fn c__law_times hr (by decide) (takes_of rfl rfl rfl rfl) (a_cons (e_var 0) (a_cons (e_var 1) a_nil)) (al_cons (al_cons al_nil))) rfl)
 (ss_cons (s_if (Γ' := [0, 0, 0, 0, 0, 0, 0, 0]) rfl (q_w (w_or (q_cmp op_gt opd_B0 (e_fn c_norm hr (by decide) (takes_of rfl rfl rfl rfl) (a_cons (e_var 6) a_nil) (al_cons al_nil)) (e_op2 op_mulD od_mul (e_var 4) (e_fn c_norm hr (by decide) (takes_of rfl rfl rfl rfl) (a_cons (e_var 1) a_nil) (al_cons al_nil))) (nomark _)) (w_or1 (q_cmp op_gt opd_B0 (e_var 4) (e_op2 op_mulD od_mul (e_len (n := 0) t.blt.len (a_cons (e_var 0) a_nil)) (e_var 3)) (nomark _)))))
 (ss_one (s_ret (Γ' := [0, 0, 0, 0, 0, 0, 0, 0]) rfl (e_bl (n := 0))))
 (ss_nil))
 (ss_one (s_ret (Γ' := [0, 0, 0, 0, 0, 0, 0, 0]) rfl (e_cmp (n := 0) op_le opd_B0 (e_fn c_norm_one hr (by decide) (takes_of rfl rfl rfl rfl) (a_cons (e_var 6) a_nil) (al_cons al_nil)) (e_op2 op_mulD od_mul (e_var 4) (e_fn c_norm_one hr (by decide) (takes_of rfl rfl rfl rfl) (a_cons (e_var 1) a_nil) (al_cons al_nil))) (nomark _))))))))))))
abbrev st_split : Stmt := top 24
theorem sc_split : FnScope ["a", "base", "count", "rows", "one", "k", "row"] ["a", "base", "count"] (defScope st_split) := ⟨rfl, rfl, rfl, by decide +kernel, rfl, by decide +kernel, by decide +kernel⟩
theorem ok_split {P : Program} {w : World} {K : PySem.W.Frag} {mg : Str → Option Value} {base : Heap} {fA : Addr} {fd : FuncData} {dvs : List V} {kws : List (Str × V)} (t : Tx K mg)  (c_check_size : FnS P w K mg base "check_size" 1 1 f_check_size 0 []) (c_check_digits : FnS P w K mg base "check_digits" 1 2 f_check_digits 0 []) (c_digits : FnS P w K mg base "digits" 3 3 f_digits 0 []) (F : FunD K "split" "split" (defArgs st_split) (defBody st_split) (defScope st_split) dvs kws fA fd) :
    FnOk P w K mg base (L2.CX P w) 4 fA fd ["a", "base", "count"] (spF ⟨K, mg, none⟩ 3 f_split 0) := by
  have nd := (sc_split).nd
  exact fn_ok (Γ := [0, 0, 0, 0, 0, 0, 0]) (Γ' := [0, 0, 0, 0, 0, 0, 0]) F sc_split rfl rfl (fun cdv A outer s H E hr => by
    unfold b_split c_split_3 c_split_2 c_split_1 c_split_0
    exact (ss_cons (s_expr rfl (e_fn c_check_size hr (by decide) (takes_of rfl rfl rfl rfl) (a_cons (e_len (n := 0) t.blt.len (a_cons (e_var 0) a_nil)) a_nil) (al_cons al_nil)))
 (ss_cons (s_expr rfl (e_fn c_check_digits hr (by decide) (takes_of rfl rfl rfl rfl) (a_cons (e_var 1) (a_cons (e_var 2) a_nil)) (al_cons (al_cons al_nil))))
 (ss_cons (s_asg (Γ' := [0, 0, 0, 0, 0, 0, 0]) 3 rfl nd (e_fz (e_comp rfl nd (i_seq (e_var 0)) (blkOk_by (own := [(("one" : Str), 4)]) (by kernel_rfl)) (by decide) (fun _ _ _ _ _ => (g_name 4 nd)) (fun _ _ _ _ _ => t_nil) (fun _ _ _ _ _ => (e_fn c_digits hr (by decide) takes0 (a_cons (e_var 4) (a_cons (e_var 1) (a_cons (e_var 2) a_nil))) (al_cons (al_cons (al_cons al_nil))))))) rfl)
 (ss_one (s_ret (Γ' := [0, 0, 0, 0, 0, 0, 0]) rfl (e_tup (n := 0) (a_cons (e_comp rfl nd (i_range1 t.blt.range (e_var 2)) (blkOk_by (own := [(("k" : Str), 5)]) (by kernel_rfl)) (by decide) (fun _ _ _ _ _ => (g_name 5 nd)) (fun _ _ _ _ _ => t_nil) (fun _ _ _ _ _ => (e_fz (e_comp rfl nd (i_seq (e_var 3)) (blkOk_by (own := [(("row" : Str), 6)]) (by kernel_rfl)) (by decide) (fun _ _ _ _ _ => (g_name 6 nd)) (fun _ _ _ _ _ => t_nil) (fun _ _ _ _ _ => (e_ix (e_ix (e_var 6) (e_int (n := 0))) (e_var 5))))))) (a_cons (e_comp rfl nd (i_seq (e_var 3)) (blkOk_by (own := [(("row" : Str), 6)]) (by kernel_rfl)) (by decide) (fun _ _ _ _ _ => (g_name 6 nd)) (fun _ _ _ _ _ => t_nil) (fun _ _ _ _ _ => (e_ix (e_var 6) (e_int (n := 0))))) a_nil)))))))))
abbrev st_evaluate : Stmt := top 25
theorem sc_evaluate : FnScope ["parts", "s", "result", "part"] ["parts", "s"] (defScope st_evaluate) := ⟨rfl, rfl, rfl, by decide +kernel, rfl, by decide +kernel, by decide +kernel⟩
theorem ok_evaluate {P : Program} {w : World} {K : PySem.W.Frag} {mg : Str → Option Value} {base : Heap} {fA : Addr} {fd : FuncData} {dvs : List V} {kws : List (Str × V)} (t : Tx K mg) {C_OutOfRange : Addr} (g_OutOfRange : mg "OutOfRange" = some (.ref C_OutOfRange)) (c_zero : FnS P w K mg base "zero" 2 1 f_zero 0 []) (c_add : FnS P w K mg base "add" 3 2 f_add 0 []) (c_multiply : FnS P w K mg base "multiply" 3 2 f_multiply 0 []) (F : FunD K "evaluate" "evaluate" (defArgs st_evaluate) (defBody st_evaluate) (defScope st_evaluate) dvs kws fA fd) :
    FnOk P w K mg base (L2.CX P w) 4 fA fd ["parts", "s"] (spF ⟨K, mg, none⟩ 2 f_evaluate 0) := by
  have nd := (sc_evaluate).nd
  exact fn_ok (Γ := [0, 0, 0, 0]) (Γ' := [0, 0, 0, 0]) F sc_evaluate rfl rfl (fun cdv A outer s H E hr => by
    unfold b_evaluate w_evaluate_0
    exact (ss_cons (s_if (Γ' := [0, 0, 0, 0]) rfl (q_cmp (op_eqD hr.units) ob_eq (e_len (n := 0) t.blt.len (a_cons (e_var 0) a_nil)) (e_int (n := 0)) (nomark _))
 (ss_one (s_raise (Γ' := [0, 0, 0, 0]) .range rfl rfl rfl (takes_of rfl rfl rfl rfl) (t.er.erc .range _ g_OutOfRange rfl)))
 (ss_nil))
 (ss_cons (s_asg (Γ' := [0, 0, 0, 0]) 2 rfl nd (e_fn c_zero hr (by decide) (takes_of rfl rfl rfl rfl) (a_cons (e_len (n := 0) t.blt.len (a_cons (e_var 1) a_nil)) a_nil) (al_cons al_nil)) rfl)
 (ss_cons (s_for [false, false, false, false] rfl (passes_of rfl) rfl (i_rev t.blt.reversed (e_var 0)) (g_name 3 nd) (Γ' := [0, 0, 0, 0]) rfl
 (ss_one (s_asg (Γ' := [0, 0, 0, 0]) 2 rfl nd (e_fn c_add hr (by decide) (takes_of rfl rfl rfl rfl) (a_cons (e_fn c_multiply hr (by decide) (takes_of rfl rfl rfl rfl) (a_cons (e_var 2) (a_cons (e_var 1) a_nil)) (al_cons (al_cons al_nil))) (a_cons (e_var 3) a_nil)) (al_cons (al_cons al_nil))) rfl)))
 (ss_one (s_ret (Γ' := [0, 0, 0, 0]) rfl (e_var 2)))))))
abbrev st__law_items : Stmt := top 36
theorem sc__law_items : FnScope ["a", "k", "base", "count", "given", "factor", "found", "rows", "place", "one", "row"] ["a", "k", "base", "count"] (defScope st__law_items) := ⟨rfl, rfl, rfl, by decide +kernel, rfl, by decide +kernel, by decide +kernel⟩
theorem ok__law_items {P : Program} {w : World} {K : PySem.W.Frag} {mg : Str → Option Value} {base : Heap} {fA : Addr} {fd : FuncData} {dvs : List V} {kws : List (Str × V)} (t : Tx K mg)  (c__law_is_list : FnS P w K mg base "_law_is_list" 2 2 f__law_is_list 0 []) (c_residue : FnS P w K mg base "residue" 2 2 f_residue 0 []) (c_residues : FnS P w K mg base "residues" 2 2 f_residues 0 []) (c_centred : FnS P w K mg base "centred" 2 2 f_centred 0 []) (c_centre : FnS P w K mg base "centre" 3 2 f_centre 0 []) (c_round_div : FnS P w K mg base "round_div" 2 2 f_round_div 0 []) (c_divide : FnS P w K mg base "divide" 3 3 f_divide 0 []) (c_split : FnS P w K mg base "split" 4 3 f_split 0 []) (c_digits : FnS P w K mg base "digits" 3 3 f_digits 0 []) (F : FunD K "_law_items" "_law_items" (defArgs st__law_items) (defBody st__law_items) (defScope st__law_items) dvs kws fA fd) :
    FnOk P w K mg base (L2.CX P w) 5 fA fd ["a", "k", "base", "count"] (spF ⟨K, mg, none⟩ 4 f__law_items 0) := by
  have nd := (sc__law_items).nd
  exact fn_ok (Γ := [0, 0, 0, 0, 0, 0, 0, 0, 0, 0, 0]) (Γ' := [0, 0, 0, 0, 0, 0, 0, 0, 0, 0, 0]) F sc__law_items rfl rfl (fun cdv A outer s H E hr => by
    unfold b__law_items t__law_items_0 c__law_items_5 w__law_items_0 c__law_items_4 c__law_items_3 c__law_items_2 c__law_items_1 c__law_items_0
    exact (ss_cons (s_asg (Γ' := [0, 0, 0, 0, 0, 0, 0, 0, 0, 0, 0]) 4 rfl nd (e_fz (e_list t.blt.list (a_cons (e_var 0) a_nil))) rfl)
 (ss_cons (s_if (Γ' := [0, 0, 0, 0, 0, 0, 0, 0, 0, 0, 0]) rfl (q_not (q_tru (e_fn c__law_is_list hr (by decide) (takes_of rfl rfl rfl rfl) (a_cons (e_fn c_residues hr (by decide) (takes_of rfl rfl rfl rfl) (a_cons (e_var 4) (a_cons (e_var 1) a_nil)) (al_cons (al_cons al_nil))) (a_cons (e_comp rfl nd (i_seq (e_var 0)) (blkOk_by (own := [(("one" : Str), 9)]) (by kernel_rfl)) (by decide) (fun _ _ _ _ _ => (g_name 9 nd)) (fun _ _ _ _ _ => t_nil) (fun _ _ _ _ _ => (e_fn c_residue hr (by decide) takes0 (a_cons (e_var 9) (a_cons (e_var 1) a_nil)) (al_cons (al_cons al_nil))))) a_nil)) (al_cons (al_cons al_nil)))))
 (ss_one (s_ret (Γ' := [0, 0, 0, 0, 0, 0, 0, 0, 0, 0, 0]) rfl (e_bl (n := 0))))
 (ss_nil))
 (ss_cons (s_if (Γ' := [0, 0, 0, 0, 0, 0, 0, 0, 0, 0, 0]) rfl (q_not (q_tru (e_fn c__law_is_list hr (by decide) (takes_of rfl rfl rfl rfl) (a_cons (e_fn c_centre hr (by decide) (takes_of rfl rfl rfl rfl) (a_cons (e_var 4) (a_cons (e_var 1) a_nil)) (al_cons (al_cons al_nil))) (a_cons (e_comp rfl nd (i_seq (e_var 0)) (blkOk_by (own := [(("one" : Str), 9)]) (by kernel_rfl)) (by decide) (fun _ _ _ _ _ => (g_name 9 nd)) (fun _ _ _ _ _ => t_nil) (fun _ _ _ _ _ => (e_fn c_centred hr (by decide) takes0 (a_cons (e_var 9) (a_cons (e_var 1) a_nil)) (al_cons (al_cons al_nil))))) a_nil)) (al_cons (al_cons al_nil)))))
 (ss_one (s_ret (Γ' := [0, 0, 0, 0, 0, 0, 0, 0, 0, 0, 0]) rfl (e_bl (n := 0))))
 (ss_nil))
 (ss_cons (s_asg (Γ' := [0, 0, 0, 0, 0, 0, 0, 0, 0, 0, 0]) 5 rfl nd (e_ix (e_lst (a_cons (e_int (n := 0)) (a_cons (e_int (n := 0)) (a_cons (e_un (n := 0) un_neg ud_neg (e_int (n := 0))) (a_cons (e_int (n := 0)) (a_cons (e_op2 (n := 0) op_sub od_sub (e_int (n := 0)) (e_var 2)) (a_cons (e_op2 op_addD od_add (e_op2 op_mulD od_mul (e_var 2) (e_var 2)) (e_var 1)) a_nil))))))) (e_op2 (n := 0) op_mod od_mod (e_int' (n := 0) t.blt.int (a_cons (e_var 2) a_nil)) (e_int (n := 0)))) rfl)
 (ss_cons (s_if (Γ' := [0, 0, 0, 0, 0, 0, 0, 0, 0, 0, 0]) rfl (q_not (q_tru (e_fn c__law_is_list hr (by decide) (takes_of rfl rfl rfl rfl) (a_cons (e_fn c_divide hr (by decide) (takes_of rfl rfl rfl rfl) (a_cons (e_var 4) (a_cons (e_var 5) (a_cons (e_var 1) a_nil))) (al_cons (al_cons (al_cons al_nil)))) (a_cons (e_comp rfl nd (i_seq (e_var 0)) (blkOk_by (own := [(("one" : Str), 9)]) (by kernel_rfl)) (by decide) (fun _ _ _ _ _ => (g_name 9 nd)) (fun _ _ _ _ _ => t_nil) (fun _ _ _ _ _ => (e_fn c_round_div hr (by decide) takes0 (a_cons (e_op2 op_mulD od_mul (e_var 5) (e_var 9)) (a_cons (e_var 1) a_nil)) (al_cons (al_cons al_nil))))) a_nil)) (al_cons (al_cons al_nil)))))
 (ss_one (s_ret (Γ' := [0, 0, 0, 0, 0, 0, 0, 0, 0, 0, 0]) rfl (e_bl (n := 0))))
 (ss_nil))
 (ss_cons (s_asg (Γ' := [0, 0, 0, 0, 0, 0, 0, 0, 0, 0, 0]) 6 rfl nd (e_fn c_split hr (by decide) (takes_of rfl rfl rfl rfl) (a_cons (e_var 4) (a_cons (e_var 2) (a_cons (e_var 3) a_nil))) (al_cons (al_cons (al_cons al_nil)))) rfl)
 (ss_cons (s_if (Γ' := [0, 0, 0, 0, 0, 0, 0, 0, 0, 0, 0]) rfl (q_w (w_or (q_not (q_tru (e_isTy (n := 0) t.blt.isi t.blt.tuple bt_tuple (e_var 6)))) (w_or (q_cmp (op_neD hr.units) ob_ne (e_len (n := 0) t.blt.len (a_cons (e_var 6) a_nil)) (e_int (n := 0)) (nomark _)) (w_or (q_not (q_tru (e_isTy (n := 0) t.blt.isi t.blt.list bt_list (e_ix (e_var 6) (e_int (n := 0)))))) (w_or1 (q_cmp (op_neD hr.units) ob_ne (e_len (n := 0) t.blt.len (a_cons (e_ix (e_var 6) (e_int (n := 0))) a_nil)) (e_var 3) (nomark _)))))))
 (ss_one (s_ret (Γ' := [0, 0, 0, 0, 0, 0, 0, 0, 0, 0, 0]) rfl (e_bl (n := 0))))
 (ss_nil))
 (ss_cons (s_fz [false, false, false, false, false, false, false, false, false, false, false] rfl (Γ1 := [0, 0, 0, 0, 0, 0, 0, 1, 0, 0, 0]) (Γ2 := [0, 0, 0, 0, 0, 0, 0, 0, 0, 0, 0]) (s_asgC 7 rfl rfl nd (i_seq (e_var 0)) (blkOk_by (own := [(("one" : Str), 9)]) (by kernel_rfl)) (by decide) (fun _ _ _ _ _ => (g_name 9 nd)) (fun _ _ _ _ _ => t_nil) (fun _ _ _ _ _ => (e_fn c_digits hr (by decide) takes0 (a_cons (e_var 9) (a_cons (e_var 2) (a_cons (e_var 3) a_nil))) (al_cons (al_cons (al_cons al_nil))))) (Γ' := [0, 0, 0, 0, 0, 0, 0, 1, 0, 0, 0]) rfl (Or.inl (by decide))))
 (ss_cons (s_for [false, false, false, false, false, false, false, false, false, false, false] rfl (passes_of rfl) rfl (i_range1 t.blt.range (e_var 3)) (g_name 8 nd) (Γ' := [0, 0, 0, 0, 0, 0, 0, 0, 0, 0, 0]) rfl
 (ss_one (s_if (Γ' := [0, 0, 0, 0, 0, 0, 0, 0, 0, 0, 0]) rfl (q_not (q_tru (e_fn c__law_is_list hr (by decide) (takes_of rfl rfl rfl rfl) (a_cons (e_ix (e_ix (e_var 6) (e_int (n := 0))) (e_var 8)) (a_cons (e_comp rfl nd (i_seq (e_var 7)) (blkOk_by (own := [(("row" : Str), 10)]) (by kernel_rfl)) (by decide) (fun _ _ _ _ _ => (g_name 10 nd)) (fun _ _ _ _ _ => t_nil) (fun _ _ _ _ _ => (e_ix (e_ix (e_var 10) (e_int (n := 0))) (e_var 8)))) a_nil)) (al_cons (al_cons al_nil)))))
 (ss_one (s_ret (Γ' := [0, 0, 0, 0, 0, 0, 0, 0, 0, 0, 0]) rfl (e_bl (n := 0))))
 (ss_nil))))
 (ss_one (s_ret (Γ' := [0, 0, 0, 0, 0, 0, 0, 0, 0, 0, 0]) rfl (e_and (e_fn c__law_is_list hr (by decide) (takes_of rfl rfl rfl rfl) (a_cons (e_ix (e_var 6) (e_int (n := 0))) (a_cons (e_comp rfl nd (i_seq (e_var 7)) (blkOk_by (own := [(("row" : Str), 10)]) (by kernel_rfl)) (by decide) (fun _ _ _ _ _ => (g_name 10 nd)) (fun _ _ _ _ _ => t_nil) (fun _ _ _ _ _ => (e_ix (e_var 10) (e_int (n := 0))))) a_nil)) (al_cons (al_cons al_nil))) (e_one (e_cmp (n := 0) (op_eqD hr.units) ob_eq (e_var 4) (e_var 0) (nomark _))))))))))))))))
abbrev st__law_refused : Stmt := top 37
theorem sc__law_refused : FnScope ["which", "a", "bad", "e"] ["which", "a", "bad"] (defScope st__law_refused) := ⟨rfl, rfl, rfl, by decide +kernel, rfl, by decide +kernel, by decide +kernel⟩
theorem ok__law_refused {P : Program} {w : World} {K : PySem.W.Frag} {mg : Str → Option Value} {base : Heap} {fA : Addr} {fd : FuncData} {dvs : List V} {kws : List (Str × V)} (t : Tx K mg) {C_OutOfRange : Addr} (g_OutOfRange : mg "OutOfRange" = some (.ref C_OutOfRange)) {C_PurseError : Addr} (g_PurseError : mg "PurseError" = some (.ref C_PurseError)) (c_worst_partner : FnS P w K mg base "worst_partner" 2 3 f_worst_partner 0 []) (c_centre : FnS P w K mg base "centre" 3 2 f_centre 0 []) (c_residues : FnS P w K mg base "residues" 2 2 f_residues 0 []) (c_divide : FnS P w K mg base "divide" 3 3 f_divide 0 []) (c_split : FnS P w K mg base "split" 4 3 f_split 0 []) (c_evaluate : FnS P w K mg base "evaluate" 4 2 f_evaluate 0 []) (c_norm : FnS P w K mg base "norm" 2 1 f_norm 0 []) (c_norm_one : FnS P w K mg base "norm_one" 2 1 f_norm_one 0 []) (F : FunD K "_law_refused" "_law_refused" (defArgs st__law_refused) (defBody st__law_refused) (defScope st__law_refused) dvs kws fA fd) :
    FnOk P w K mg base (L2.CX P w) 5 fA fd ["which", "a", "bad"] (spF ⟨K, mg, none⟩ 3 f__law_refused 0) := by
  have nd := (sc__law_refused).nd
  exact fn_ok (Γ := [0, 0, 0, 0]) (Γ' := [0, 0, 0, 0]) F sc__law_refused rfl rfl (fun cdv A outer s H E hr => by
    unfold b__law_refused
    exact (ss_cons (s_tryAs (Γh := [0, 0, 0, 0]) (Γh' := [0, 0, 0, 0]) (Γ1 := [0, 0, 0, 0]) (Γ' := [0, 0, 0, 0]) [false, false, false, false] .purse 3 t.er rfl rfl rfl nd g_PurseError rfl rfl (takes_of rfl rfl rfl rfl) rfl rfl rfl rfl
 (fun W pn xe tk hp => (ss_one (s_if (Γ' := [0, 0, 0, 0]) rfl (q_cmp (op_eqD hr.units) ob_eq (e_var 0) (e_int (n := 0)) (nomark _))
 (ss_one (s_expr rfl (e_fn c_worst_partner hr (by decide) tk (a_cons (e_var 1) (a_cons (e_var 2) (a_cons (e_int (n := 0)) a_nil))) (al_cons (al_cons (al_cons al_nil))))))
 (ss_one (s_if (Γ' := [0, 0, 0, 0]) rfl (q_cmp (op_eqD hr.units) ob_eq (e_var 0) (e_int (n := 0)) (nomark _))
 (ss_one (s_expr rfl (e_fn c_worst_partner hr (by decide) tk (a_cons (e_var 1) (a_cons (e_int (n := 0)) (a_cons (e_var 2) a_nil))) (al_cons (al_cons (al_cons al_nil))))))
 (ss_one (s_if (Γ' := [0, 0, 0, 0]) rfl (q_cmp (op_eqD hr.units) ob_eq (e_var 0) (e_int (n := 0)) (nomark _))
 (ss_one (s_expr rfl (e_fn c_centre hr (by decide) tk (a_cons (e_var 1) (a_cons (e_var 2) a_nil)) (al_cons (al_cons al_nil)))))
 (ss_one (s_if (Γ' := [0, 0, 0, 0]) rfl (q_cmp (op_eqD hr.units) ob_eq (e_var 0) (e_int (n := 0)) (nomark _))
 (ss_one (s_expr rfl (e_fn c_residues hr (by decide) tk (a_cons (e_var 1) (a_cons (e_var 2) a_nil)) (al_cons (al_cons al_nil)))))
 (ss_one (s_if (Γ' := [0, 0, 0, 0]) rfl (q_cmp (op_eqD hr.units) ob_eq (e_var 0) (e_int (n := 0)) (nomark _))
 (ss_one (s_expr rfl (e_fn c_divide hr (by decide) tk (a_cons (e_var 1) (a_cons (e_int (n := 0)) (a_cons (e_var 2) a_nil))) (al_cons (al_cons (al_cons al_nil))))))
 (ss_one (s_if (Γ' := [0, 0, 0, 0]) rfl (q_cmp (op_eqD hr.units) ob_eq (e_var 0) (e_int (n := 0)) (nomark _))
 (ss_one (s_expr rfl (e_fn c_split hr (by decide) tk (a_cons (e_var 1) (a_cons (e_var 2) (a_cons (e_int (n := 0)) a_nil))) (al_cons (al_cons (al_cons al_nil))))))
 (ss_one (s_if (Γ' := [0, 0, 0, 0]) rfl (q_cmp (op_eqD hr.units) ob_eq (e_var 0) (e_int (n := 0)) (nomark _))
 (ss_one (s_expr rfl (e_fn c_split hr (by decide) tk (a_cons (e_var 1) (a_cons (e_int (n := 0)) (a_cons (e_var 2) a_nil))) (al_cons (al_cons (al_cons al_nil))))))
 (ss_one (s_if (Γ' := [0, 0, 0, 0]) rfl (q_cmp (op_eqD hr.units) ob_eq (e_var 0) (e_int (n := 0)) (nomark _))
 (ss_one (s_expr rfl (e_fn c_evaluate hr (by decide) tk (a_cons (e_var 2) (a_cons (e_var 1) a_nil)) (al_cons (al_cons al_nil)))))
 (ss_one (s_expr rfl (e_pick2 c_norm c_norm_one (hr.mono (by decide)) (hr.mono (by decide)) tk (e_op2 (n := 0) op_sub od_sub (e_var 0) (e_int (n := 0))) (a_cons (e_var 2) a_nil) (al_cons al_nil)))))))))))))))))))))
 (fun a oe pn er AE ho gE hz hf => (ss_one (s_ret (Γ' := [0, 0, 0, 0]) rfl (e_isEr (n := 0) .range 3 t.er hz hf gE ho g_OutOfRange rfl rfl t.blt.isi)))))
 (ss_one (s_ret (Γ' := [0, 0, 0, 0]) rfl (e_bl (n := 0))))))
abbrev st__law_odd_sizes : Stmt := top 38
theorem sc__law_odd_sizes : FnScope ["a", "bad", "told"] ["a"] (defScope st__law_odd_sizes) := ⟨rfl, rfl, rfl, by decide +kernel, rfl, by decide +kernel, by decide +kernel⟩
theorem ok__law_odd_sizes {P : Program} {w : World} {K : PySem.W.Frag} {mg : Str → Option Value} {base : Heap} {fA : Addr} {fd : FuncData} {dvs : List V} {kws : List (Str × V)} (t : Tx K mg)  (c__law_refused : FnS P w K mg base "_law_refused" 5 3 f__law_refused 0 []) (F : FunD K "_law_odd_sizes" "_law_odd_sizes" (defArgs st__law_odd_sizes) (defBody st__law_odd_sizes) (defScope st__law_odd_sizes) dvs kws fA fd) :
    FnOk P w K mg base (L2.CX P w) 6 fA fd ["a"] (spF ⟨K, mg, none⟩ 1 f__law_odd_sizes 0) := by
  have nd := (sc__law_odd_sizes).nd
  exact fn_ok (Γ := [0, 0, 0]) (Γ' := [0, 0, 0]) F sc__law_odd_sizes rfl rfl (fun cdv A outer s H E hr => by
    unfold b__law_odd_sizes w__law_odd_sizes_0
    exact (ss_cons (s_for [false, false, false] rfl (passes_of rfl) rfl (i_seq (e_lst (a_cons (e_lst a_nil) (a_cons (e_op2 op_addD od_add (e_var 0) (e_op2 op_mulD od_mul (e_lst (a_cons (e_int (n := 0)) a_nil)) (e_op2 op_addD od_add (e_int (n := 0)) (e_int' (n := 0) t.blt.int (a_cons (e_cmp (n := 0) (op_eqD hr.units) ob_eq (e_len (n := 0) t.blt.len (a_cons (e_var 0) a_nil)) (e_int (n := 0)) (nomark _)) a_nil))))) (a_cons (e_op2 op_mulD od_mul (e_lst (a_cons (e_int (n := 0)) a_nil)) (e_int (n := 0))) a_nil))))) (g_name 1 nd) (Γ' := [0, 0, 0]) rfl
 (ss_cons (s_asg (Γ' := [0, 0, 0]) 2 rfl nd (e_fz (e_lst (a_cons (e_fn c__law_refused hr (by decide) (takes_of rfl rfl rfl rfl) (a_cons (e_int (n := 0)) (a_cons (e_non (n := 0)) (a_cons (e_var 1) a_nil))) (al_cons (al_cons (al_cons al_nil)))) (a_cons (e_fn c__law_refused hr (by decide) (takes_of rfl rfl rfl rfl) (a_cons (e_int (n := 0)) (a_cons (e_non (n := 0)) (a_cons (e_var 1) a_nil))) (al_cons (al_cons (al_cons al_nil)))) (a_cons (e_fn c__law_refused hr (by decide) (takes_of rfl rfl rfl rfl) (a_cons (e_int (n := 0)) (a_cons (e_var 1) (a_cons (e_int (n := 0)) a_nil))) (al_cons (al_cons (al_cons al_nil)))) (a_cons (e_fn c__law_refused hr (by decide) (takes_of rfl rfl rfl rfl) (a_cons (e_int (n := 0)) (a_cons (e_var 1) (a_cons (e_int (n := 0)) a_nil))) (al_cons (al_cons (al_cons al_nil)))) (a_cons (e_fn c__law_refused hr (by decide) (takes_of rfl rfl rfl rfl) (a_cons (e_int (n := 0)) (a_cons (e_var 1) (a_cons (e_int (n := 0)) a_nil))) (al_cons (al_cons (al_cons al_nil)))) a_nil))))))) rfl)
 (ss_one (s_if (Γ' := [0, 0, 0]) rfl (q_cmp (op_inD (hu65 hr)) ob_in (e_bl (n := 0)) (e_op2 op_addD od_add (e_var 2) (e_lst (a_cons (e_fn c__law_refused hr (by decide) (takes_of rfl rfl rfl rfl) (a_cons (e_int (n := 0)) (a_cons (e_var 1) (a_cons (e_int (n := 0)) a_nil))) (al_cons (al_cons (al_cons al_nil)))) (a_cons (e_fn c__law_refused hr (by decide) (takes_of rfl rfl rfl rfl) (a_cons (e_int (n := 0)) (a_cons (e_var 1) (a_cons (e_int (n := 0)) a_nil))) (al_cons (al_cons (al_cons al_nil)))) a_nil)))) (by with_unfolding_all rfl))
 (ss_one (s_ret (Γ' := [0, 0, 0]) rfl (e_bl (n := 0))))
 (ss_nil)))))
 (ss_one (s_ret (Γ' := [0, 0, 0]) rfl (e_bl (n := 0))))))
abbrev st__law_bounds : Stmt := top 39
theorem sc__law_bounds : FnScope ["a", "cell", "size", "rows", "which", "bad"] ["a", "cell"] (defScope st__law_bounds) := ⟨rfl, rfl, rfl, by decide +kernel, rfl, by decide +kernel, by decide +kernel⟩
theorem ok__law_bounds {P : Program} {w : World} {K : PySem.W.Frag} {mg : Str → Option Value} {base : Heap} {fA : Addr} {fd : FuncData} {dvs : List V} {kws : List (Str × V)} (t : Tx K mg)  (c__law_refused : FnS P w K mg base "_law_refused" 5 3 f__law_refused 0 []) (c__law_odd_sizes : FnS P w K mg base "_law_odd_sizes" 6 1 f__law_odd_sizes 0 []) (F : FunD K "_law_bounds" "_law_bounds" (defArgs st__law_bounds) (defBody st__law_bounds) (defScope st__law_bounds) dvs kws fA fd) :
    FnOk P w K mg base (L2.CX P w) 7 fA fd ["a", "cell"] (spF ⟨K, mg, none⟩ 2 f__law_bounds 0) := by
  have nd := (sc__law_bounds).nd
  exact fn_ok (Γ := [0, 0, 0, 0, 0, 0]) (Γ' := [0, 0, 0, 0, 0, 0]) F sc__law_bounds rfl rfl (fun cdv A outer s H E hr => by
    unfold b__law_bounds w__law_bounds_1 w__law_bounds_0
    exact (ss_cons (s_asg (Γ' := [0, 0, 0, 0, 0, 0]) 2 rfl nd (e_len (n := 0) t.blt.len (a_cons (e_var 0) a_nil)) rfl)
 (ss_cons (s_asg (Γ' := [0, 0, 0, 0, 0, 0]) 3 rfl nd (e_fz (e_lst (a_cons (e_lst (a_cons (e_un (n := 0) un_neg ud_neg (e_int (n := 0))) (a_cons (e_var 2) (a_cons (e_op2 op_addD od_add (e_var 2) (e_var 1)) a_nil)))) (a_cons (e_lst (a_cons (e_un (n := 0) un_neg ud_neg (e_int (n := 0))) (a_cons (e_op2 (n := 0) op_sub od_sub (e_un (n := 0) un_neg ud_neg (e_int (n := 0))) (e_var 1)) a_nil))) (a_cons (e_lst (a_cons (e_int (n := 0)) (a_cons (e_un (n := 0) un_neg ud_neg (e_var 1)) a_nil))) (a_cons (e_lst (a_cons (e_int (n := 0)) (a_cons (e_un (n := 0) un_neg ud_neg (e_int (n := 0))) a_nil))) (a_cons (e_lst (a_cons (e_int (n := 0)) (a_cons (e_op2 (n := 0) op_sub od_sub (e_un (n := 0) un_neg ud_neg (e_int (n := 0))) (e_var 1)) a_nil))) (a_cons (e_lst (a_cons (e_int (n := 0)) (a_cons (e_un (n := 0) un_neg ud_neg (e_var 1)) a_nil))) (a_cons (e_lst (a_cons (e_un (n := 0) un_neg ud_neg (e_int (n := 0))) (a_cons (e_int (n := 0)) a_nil))) (a_cons (e_lst (a_cons (e_lst (a_cons (e_op2 op_addD od_add (e_var 0) (e_var 0)) a_nil)) (a_cons (e_lst a_nil) a_nil))) a_nil)))))))))) rfl)
 (ss_cons (s_for [false, false, false, false, false, false] rfl (passes_of rfl) rfl (i_range1 t.blt.range (e_int (n := 0))) (g_name 4 nd) (Γ' := [0, 0, 0, 0, 0, 0]) rfl
 (ss_one (s_for [false, false, false, false, false, false] rfl (passes_of rfl) rfl (i_seq (e_ix (e_var 3) (e_var 4))) (g_name 5 nd) (Γ' := [0, 0, 0, 0, 0, 0]) rfl
 (ss_one (s_if (Γ' := [0, 0, 0, 0, 0, 0]) rfl (q_not (q_tru (e_fn c__law_refused hr (by decide) (takes_of rfl rfl rfl rfl) (a_cons (e_var 4) (a_cons (e_var 0) (a_cons (e_var 5) a_nil))) (al_cons (al_cons (al_cons al_nil))))))
 (ss_one (s_ret (Γ' := [0, 0, 0, 0, 0, 0]) rfl (e_bl (n := 0))))
 (ss_nil))))))
 (ss_one (s_ret (Γ' := [0, 0, 0, 0, 0, 0]) rfl (e_fn c__law_odd_sizes hr (by decide) (takes_of rfl rfl rfl rfl) (a_cons (e_var 0) a_nil) (al_cons al_nil))))))))
abbrev st_law : Stmt := top 41
theorem sc_law : FnScope ["script", "size", "most", "a", "b", "k", "place", "limit", "given", "partner", "product", "parts", "due", "power", "part", "j", "one", "other"] ["script"] (defScope st_law) := ⟨rfl, rfl, rfl, by decide +kernel, rfl, by decide +kernel, by decide +kernel⟩
theorem ok_law {P : Program} {w : World} {K : PySem.W.Frag} {mg : Str → Option Value} {base : Heap} {fA : Addr} {fd : FuncData} {dvs : List V} {kws : List (Str × V)} (t : Tx K mg)  (c__law_size : FnS P w K mg base "_law_size" 1 1 f__law_size 0 []) (c__law_cell : FnS P w K mg base "_law_cell" 1 2 f__law_cell 0 []) (c__law_poly : FnS P w K mg base "_law_poly" 3 3 f__law_poly 0 []) (c__law_sizes : FnS P w K mg base "_law_sizes" 3 3 f__law_sizes 0 []) (c_worst_partner : FnS P w K mg base "worst_partner" 2 3 f_worst_partner 0 []) (c__law_is_list : FnS P w K mg base "_law_is_list" 2 2 f__law_is_list 0 []) (c__law_partner : FnS P w K mg base "_law_partner" 1 3 f__law_partner 0 []) (c_multiply : FnS P w K mg base "multiply" 3 2 f_multiply 0 []) (c_norm_one : FnS P w K mg base "norm_one" 2 1 f_norm_one 0 []) (c_norm : FnS P w K mg base "norm" 2 1 f_norm 0 []) (c__law_items : FnS P w K mg base "_law_items" 5 4 f__law_items 0 []) (c__law_bounds : FnS P w K mg base "_law_bounds" 7 2 f__law_bounds 0 []) (c__law_times : FnS P w K mg base "_law_times" 1 2 f__law_times 0 []) (c_evaluate : FnS P w K mg base "evaluate" 4 2 f_evaluate 0 []) (F : FunD K "law" "law" (defArgs st_law) (defBody st_law) (defScope st_law) dvs kws fA fd) :
    FnOk P w K mg base (L2.CX P w) 8 fA fd ["script"] (spF ⟨K, mg, none⟩ 1 f_law 0) := by
  have nd := (sc_law).nd
  exact fn_ok (Γ := [0, 0, 0, 0, 0, 0, 0, 0, 0, 0, 0, 0, 0, 0, 0, 0, 0, 0]) (Γ' := [0, 0, 0, 0, 0, 0, 0, 0, 0, 0, 0, 0, 0, 0, 0, 0, 0, 0]) F sc_law rfl rfl (fun cdv A outer s H E hr => by
    unfold b_law t_law_3 t_law_2 t_law_1 t_law_0 w_law_0 c_law_2 c_law_1 c_law_0
    exact (ss_cons (s_asg (Γ' := [0, 0, 0, 0, 0, 0, 0, 0, 0, 0, 0, 0, 0, 0, 0, 0, 0, 0]) 1 rfl nd (e_fn c__law_size hr (by decide) (takes_of rfl rfl rfl rfl) (a_cons (e_fn c__law_cell hr (by decide) (takes_of rfl rfl rfl rfl) (a_cons (e_var 0) (a_cons (e_int (n := 0)) a_nil)) (al_cons (al_cons al_nil))) a_nil) (al_cons al_nil)) rfl)
 (ss_cons (s_asg (Γ' := [0, 0, 0, 0, 0, 0, 0, 0, 0, 0, 0, 0, 0, 0, 0, 0, 0, 0]) 2 rfl nd (e_ix (e_lst (a_cons (e_int (n := 0)) (a_cons (e_op2 (n := 0) op_shlW od_shl (e_int (n := 0)) (e_int (n := 0))) (a_cons (e_int (n := 0)) a_nil)))) (e_op2 (n := 0) op_mod od_mod (e_op2 (n := 0) op_fdivL od_div (e_abs (n := 0) t.blt.abs (a_cons (e_fn c__law_cell hr (by decide) (takes_of rfl rfl rfl rfl) (a_cons (e_var 0) (a_cons (e_int (n := 0)) a_nil)) (al_cons (al_cons al_nil))) a_nil)) (e_int (n := 0))) (e_int (n := 0)))) rfl)
 (ss_cons (s_asg (Γ' := [0, 0, 0, 0, 0, 0, 0, 0, 0, 0, 0, 0, 0, 0, 0, 0, 0, 0]) 3 rfl nd (e_fn c__law_poly hr (by decide) (takes_of rfl rfl rfl rfl) (a_cons (e_fn c__law_cell hr (by decide) (takes_of rfl rfl rfl rfl) (a_cons (e_var 0) (a_cons (e_int (n := 0)) a_nil)) (al_cons (al_cons al_nil))) (a_cons (e_var 1) (a_cons (e_var 2) a_nil))) (al_cons (al_cons (al_cons al_nil)))) rfl)
 (ss_cons (s_asg (Γ' := [0, 0, 0, 0, 0, 0, 0, 0, 0, 0, 0, 0, 0, 0, 0, 0, 0, 0]) 4 rfl nd (e_fn c__law_poly hr (by decide) (takes_of rfl rfl rfl rfl) (a_cons (e_fn c__law_cell hr (by decide) (takes_of rfl rfl rfl rfl) (a_cons (e_var 0) (a_cons (e_int (n := 0)) a_nil)) (al_cons (al_cons al_nil))) (a_cons (e_var 1) (a_cons (e_var 2) a_nil))) (al_cons (al_cons (al_cons al_nil)))) rfl)
 (ss_cons (s_asg (Γ' := [0, 0, 0, 0, 0, 0, 0, 0, 0, 0, 0, 0, 0, 0, 0, 0, 0, 0]) 5 rfl nd (e_fn c__law_cell hr (by decide) (takes_of rfl rfl rfl rfl) (a_cons (e_var 0) (a_cons (e_int (n := 0)) a_nil)) (al_cons (al_cons al_nil))) rfl)
 (ss_cons (s_if (Γ' := [0, 0, 0, 0, 0, 0, 0, 0, 0, 0, 0, 0, 0, 0, 0, 0, 0, 0]) rfl (q_not (q_tru (e_fn c__law_sizes hr (by decide) (takes_of rfl rfl rfl rfl) (a_cons (e_list t.blt.list (a_cons (e_var 3) a_nil)) (a_cons (e_list t.blt.list (a_cons (e_var 4) a_nil)) (a_cons (e_var 5) a_nil))) (al_cons (al_cons (al_cons al_nil))))))
 (ss_one (s_ret (Γ' := [0, 0, 0, 0, 0, 0, 0, 0, 0, 0, 0, 0, 0, 0, 0, 0, 0, 0]) rfl (e_bl (n := 0))))
 (ss_nil))
 (ss_cons (s_asg (Γ' := [0, 0, 0, 0, 0, 0, 0, 0, 0, 0, 0, 0, 0, 0, 0, 0, 0, 0]) 6 rfl nd (e_op2 (n := 0) op_mod od_mod (e_abs (n := 0) t.blt.abs (a_cons (e_fn c__law_cell hr (by decide) (takes_of rfl rfl rfl rfl) (a_cons (e_var 0) (a_cons (e_int (n := 0)) a_nil)) (al_cons (al_cons al_nil))) a_nil)) (e_var 1)) rfl)
 (ss_cons (s_asg (Γ' := [0, 0, 0, 0, 0, 0, 0, 0, 0, 0, 0, 0, 0, 0, 0, 0, 0, 0]) 7 rfl nd (e_ix (e_lst (a_cons (e_op2 (n := 0) op_mod od_mod (e_op2 (n := 0) op_fdivL od_div (e_abs (n := 0) t.blt.abs (a_cons (e_fn c__law_cell hr (by decide) (takes_of rfl rfl rfl rfl) (a_cons (e_var 0) (a_cons (e_int (n := 0)) a_nil)) (al_cons (al_cons al_nil))) a_nil)) (e_var 1)) (e_int (n := 0))) (a_cons (e_op2 (n := 0) op_shlW od_shl (e_int (n := 0)) (e_int (n := 0))) a_nil))) (e_op2 (n := 0) op_mod od_mod (e_op2 (n := 0) op_fdivL od_div (e_abs (n := 0) t.blt.abs (a_cons (e_fn c__law_cell hr (by decide) (takes_of rfl rfl rfl rfl) (a_cons (e_var 0) (a_cons (e_int (n := 0)) a_nil)) (al_cons (al_cons al_nil))) a_nil)) (e_int (n := 0))) (e_int (n := 0)))) rfl)
 (ss_cons (s_asg (Γ' := [0, 0, 0, 0, 0, 0, 0, 0, 0, 0, 0, 0, 0, 0, 0, 0, 0, 0]) 8 rfl nd (e_fz (e_list t.blt.list (a_cons (e_var 3) a_nil))) rfl)
 (ss_cons (s_asg (Γ' := [0, 0, 0, 0, 0, 0, 0, 0, 0, 0, 0, 0, 0, 0, 0, 0, 0, 0]) 9 rfl nd (e_fn c_worst_partner hr (by decide) (takes_of rfl rfl rfl rfl) (a_cons (e_var 8) (a_cons (e_var 6) (a_cons (e_var 7) a_nil))) (al_cons (al_cons (al_cons al_nil)))) rfl)
 (ss_cons (s_if (Γ' := [0, 0, 0, 0, 0, 0, 0, 0, 0, 0, 0, 0, 0, 0, 0, 0, 0, 0]) rfl (q_w (w_or (q_not (q_tru (e_fn c__law_is_list hr (by decide) (takes_of rfl rfl rfl rfl) (a_cons (e_var 9) (a_cons (e_fn c__law_partner hr (by decide) (takes_of rfl rfl rfl rfl) (a_cons (e_var 3) (a_cons (e_var 6) (a_cons (e_var 7) a_nil))) (al_cons (al_cons (al_cons al_nil)))) a_nil)) (al_cons (al_cons al_nil))))) (w_or1 (q_cmp (op_neD hr.units) ob_ne (e_var 8) (e_var 3) (nomark _)))))
 (ss_one (s_ret (Γ' := [0, 0, 0, 0, 0, 0, 0, 0, 0, 0, 0, 0, 0, 0, 0, 0, 0, 0]) rfl (e_bl (n := 0))))
 (ss_nil))
 (ss_cons (s_if (Γ' := [0, 0, 0, 0, 0, 0, 0, 0, 0, 0, 0, 0, 0, 0, 0, 0, 0, 0]) rfl (q_cmp op_le opd_B0 (e_var 1) (e_int (n := 0)) (nomark _))
 (ss_cons (s_asg (Γ' := [0, 0, 0, 0, 0, 0, 0, 0, 0, 0, 0, 0, 0, 0, 0, 0, 0, 0]) 10 rfl nd (e_fn c_multiply hr (by decide) (takes_of rfl rfl rfl rfl) (a_cons (e_var 3) (a_cons (e_var 9) a_nil)) (al_cons (al_cons al_nil))) rfl)
 (ss_one (s_if (Γ' := [0, 0, 0, 0, 0, 0, 0, 0, 0, 0, 0, 0, 0, 0, 0, 0, 0, 0]) rfl (q_w (w_or (q_cmp (op_neD hr.units) ob_ne (e_ix (e_var 10) (e_var 6)) (e_op2 op_mulD od_mul (e_fn c_norm_one hr (by decide) (takes_of rfl rfl rfl rfl) (a_cons (e_var 3) a_nil) (al_cons al_nil)) (e_var 7)) (nomark _)) (w_or1 (q_cmp (op_neD hr.units) ob_ne (e_fn c_norm hr (by decide) (takes_of rfl rfl rfl rfl) (a_cons (e_var 10) a_nil) (al_cons al_nil)) (e_op2 op_mulD od_mul (e_fn c_norm_one hr (by decide) (takes_of rfl rfl rfl rfl) (a_cons (e_var 3) a_nil) (al_cons al_nil)) (e_var 7)) (nomark _)))))
 (ss_one (s_ret (Γ' := [0, 0, 0, 0, 0, 0, 0, 0, 0, 0, 0, 0, 0, 0, 0, 0, 0, 0]) rfl (e_bl (n := 0))))
 (ss_nil))))
 (ss_nil))
 (ss_cons (s_if (Γ' := [0, 0, 0, 0, 0, 0, 0, 0, 0, 0, 0, 0, 0, 0, 0, 0, 0, 0]) rfl (q_not (q_tru (e_fn c__law_items hr (by decide) (takes_of rfl rfl rfl rfl) (a_cons (e_var 3) (a_cons (e_op2 op_addD od_add (e_int (n := 0)) (e_op2 (n := 0) op_mod od_mod (e_abs (n := 0) t.blt.abs (a_cons (e_var 5) a_nil)) (e_op2 (n := 0) op_shlW od_shl (e_int (n := 0)) (e_int (n := 0))))) (a_cons (e_op2 op_addD od_add (e_int (n := 0)) (e_op2 (n := 0) op_mod od_mod (e_op2 (n := 0) op_fdivL od_div (e_abs (n := 0) t.blt.abs (a_cons (e_var 5) a_nil)) (e_int (n := 0))) (e_int (n := 0)))) (a_cons (e_op2 (n := 0) op_mod od_mod (e_abs (n := 0) t.blt.abs (a_cons (e_var 5) a_nil)) (e_int (n := 0))) a_nil)))) (al_cons (al_cons (al_cons (al_cons al_nil)))))))
 (ss_one (s_ret (Γ' := [0, 0, 0, 0, 0, 0, 0, 0, 0, 0, 0, 0, 0, 0, 0, 0, 0, 0]) rfl (e_bl (n := 0))))
 (ss_nil))
 (ss_cons (s_if (Γ' := [0, 0, 0, 0, 0, 0, 0, 0, 0, 0, 0, 0, 0, 0, 0, 0, 0, 0]) rfl (q_cmp op_gt opd_B0 (e_var 1) (e_int (n := 0)) (nomark _))
 (ss_one (s_ret (Γ' := [0, 0, 0, 0, 0, 0, 0, 0, 0, 0, 0, 0, 0, 0, 0, 0, 0, 0]) rfl (e_fn c__law_bounds hr (by decide) (takes_of rfl rfl rfl rfl) (a_cons (e_var 3) (a_cons (e_abs (n := 0) t.blt.abs (a_cons (e_fn c__law_cell hr (by decide) (takes_of rfl rfl rfl rfl) (a_cons (e_var 0) (a_cons (e_int (n := 0)) a_nil)) (al_cons (al_cons al_nil))) a_nil)) a_nil)) (al_cons (al_cons al_nil)))))
 (ss_nil))
 (ss_cons (s_fz [false, false, false, false, false, false, false, false, false, false, false, false, false, false, false, false, false, false] rfl (Γ1 := [0, 0, 0, 0, 0, 0, 0, 0, 0, 0, 0, 1, 0, 0, 0, 0, 0, 0]) (Γ2 := [0, 0, 0, 0, 0, 0, 0, 0, 0, 0, 0, 0, 0, 0, 0, 0, 0, 0]) (s_asgC 11 rfl rfl nd (i_range1 t.blt.range (e_op2 op_addD od_add (e_int (n := 0)) (e_op2 (n := 0) op_mod od_mod (e_abs (n := 0) t.blt.abs (a_cons (e_fn c__law_cell hr (by decide) (takes_of rfl rfl rfl rfl) (a_cons (e_var 0) (a_cons (e_int (n := 0)) a_nil)) (al_cons (al_cons al_nil))) a_nil)) (e_int (n := 0))))) (blkOk_by (own := [(("j" : Str), 15)]) (by kernel_rfl)) (by decide) (fun _ _ _ _ _ => (g_name 15 nd)) (fun _ _ _ _ _ => t_nil) (fun _ _ _ _ _ => (e_fn c__law_poly hr (by decide) takes0 (a_cons (e_fn c__law_cell hr (by decide) takes0 (a_cons (e_var 0) (a_cons (e_op2 op_addD od_add (e_int (n := 0)) (e_var 15)) a_nil)) (al_cons (al_cons al_nil))) (a_cons (e_var 1) (a_cons (e_int (n := 0)) a_nil))) (al_cons (al_cons (al_cons al_nil))))) (Γ' := [0, 0, 0, 0, 0, 0, 0, 0, 0, 0, 0, 1, 0, 0, 0, 0, 0, 0]) rfl (Or.inl (by decide))))
 (ss_cons (s_asg (Γ' := [0, 0, 0, 0, 0, 0, 0, 0, 0, 0, 0, 0, 0, 0, 0, 0, 0, 0]) 8 rfl nd (e_fz (e_lst (a_cons (e_comp rfl nd (i_seq (e_var 11)) (blkOk_by (own := [(("part" : Str), 14)]) (by kernel_rfl)) (by decide) (fun _ _ _ _ _ => (g_name 14 nd)) (fun _ _ _ _ _ => t_nil) (fun _ _ _ _ _ => (e_fz (e_list t.blt.list (a_cons (e_var 14) a_nil))))) (a_cons (e_list t.blt.list (a_cons (e_var 4) a_nil)) a_nil)))) rfl)
 (ss_cons (s_fz [false, false, false, false, false, false, false, false, false, false, false, false, false, false, false, false, false, false] rfl (Γ1 := [0, 0, 0, 0, 0, 0, 0, 0, 0, 0, 0, 0, 1, 0, 0, 0, 0, 0]) (Γ2 := [0, 0, 0, 0, 0, 0, 0, 0, 0, 0, 0, 0, 0, 0, 0, 0, 0, 0]) (s_asgC 12 rfl rfl nd (i_seq (e_var 3)) (blkOk_by (own := [(("one" : Str), 16)]) (by kernel_rfl)) (by decide) (fun _ _ _ _ _ => (g_name 16 nd)) (fun _ _ _ _ _ => t_nil) (fun _ _ _ _ _ => (e_int (n := 0))) (Γ' := [0, 0, 0, 0, 0, 0, 0, 0, 0, 0, 0, 0, 1, 0, 0, 0, 0, 0]) rfl (Or.inl (by decide))))
 (ss_cons (s_asg (Γ' := [0, 0, 0, 0, 0, 0, 0, 0, 0, 0, 0, 0, 0, 0, 0, 0, 0, 0]) 13 rfl nd (e_fz (e_op2 op_addD od_add (e_lst (a_cons (e_int (n := 0)) a_nil)) (e_comp rfl nd (i_range1 t.blt.range (e_op2 (n := 0) op_sub od_sub (e_var 1) (e_int (n := 0)))) (blkOk_by (own := [(("j" : Str), 15)]) (by kernel_rfl)) (by decide) (fun _ _ _ _ _ => (g_name 15 nd)) (fun _ _ _ _ _ => t_nil) (fun _ _ _ _ _ => (e_int (n := 0)))))) rfl)
 (ss_cons (s_for [false, false, false, false, false, false, false, false, false, false, false, false, false, false, false, false, false, false] rfl (passes_of rfl) rfl (i_seq (e_var 11)) (g_name 14 nd) (Γ' := [0, 0, 0, 0, 0, 0, 0, 0, 0, 0, 0, 0, 0, 0, 0, 0, 0, 0]) rfl
 (ss_cons (s_fz [false, false, false, false, false, false, false, false, false, false, false, false, false, false, false, false, false, false] rfl (Γ1 := [0, 0, 0, 0, 0, 0, 0, 0, 0, 0, 0, 0, 1, 0, 0, 0, 0, 0]) (Γ2 := [0, 0, 0, 0, 0, 0, 0, 0, 0, 0, 0, 0, 0, 0, 0, 0, 0, 0]) (s_asgC 12 rfl rfl nd (i_zip t.blt.zip (e_var 12) (e_fn c__law_times hr (by decide) (takes_of rfl rfl rfl rfl) (a_cons (e_var 14) (a_cons (e_var 13) a_nil)) (al_cons (al_cons al_nil)))) (blkOk_by (own := [(("one" : Str), 16), (("other" : Str), 17)]) (by kernel_rfl)) (by decide) (fun _ _ _ _ _ => (g_tup rfl (gs_cons (g_name 16 nd) (gs_cons (g_name 17 nd) gs_nil)) (bl_cons (bl_cons bl_nil)))) (fun _ _ _ _ _ => t_nil) (fun _ _ _ _ _ => (e_fz (e_op2 op_addD od_add (e_var 16) (e_var 17)))) (Γ' := [0, 0, 0, 0, 0, 0, 0, 0, 0, 0, 0, 0, 1, 0, 0, 0, 0, 0]) rfl (Or.inl (by decide))))
 (ss_one (s_asg (Γ' := [0, 0, 0, 0, 0, 0, 0, 0, 0, 0, 0, 0, 0, 0, 0, 0, 0, 0]) 13 rfl nd (e_fn c__law_times hr (by decide) (takes_of rfl rfl rfl rfl) (a_cons (e_var 13) (a_cons (e_var 4) a_nil)) (al_cons (al_cons al_nil))) rfl))))
 (ss_cons (s_if (Γ' := [0, 0, 0, 0, 0, 0, 0, 0, 0, 0, 0, 0, 0, 0, 0, 0, 0, 0]) rfl (q_w (w_or (q_not (q_tru (e_fn c__law_is_list hr (by decide) (takes_of rfl rfl rfl rfl) (a_cons (e_fn c_evaluate hr (by decide) (takes_of rfl rfl rfl rfl) (a_cons (e_ix (e_var 8) (e_int (n := 0))) (a_cons (e_ix (e_var 8) (e_int (n := 0))) a_nil)) (al_cons (al_cons al_nil))) (a_cons (e_var 12) a_nil)) (al_cons (al_cons al_nil))))) (w_or1 (q_cmp (op_neD hr.units) ob_ne (e_var 8) (e_lst (a_cons (e_var 11) (a_cons (e_var 4) a_nil))) (nomark _)))))
 (ss_one (s_ret (Γ' := [0, 0, 0, 0, 0, 0, 0, 0, 0, 0, 0, 0, 0, 0, 0, 0, 0, 0]) rfl (e_bl (n := 0))))
 (ss_nil))
 (ss_one (s_ret (Γ' := [0, 0, 0, 0, 0, 0, 0, 0, 0, 0, 0, 0, 0, 0, 0, 0, 0, 0]) rfl (e_fn c__law_bounds hr (by decide) (takes_of rfl rfl rfl rfl) (a_cons (e_var 3) (a_cons (e_abs (n := 0) t.blt.abs (a_cons (e_fn c__law_cell hr (by decide) (takes_of rfl rfl rfl rfl) (a_cons (e_var 0) (a_cons (e_int (n := 0)) a_nil)) (al_cons (al_cons al_nil))) a_nil)) a_nil)) (al_cons (al_cons al_nil))))))))))))))))))))))))))
end K03
namespace K03
open PySem PySem.Spec PyProof.Rows L2 VL
def d_check_modulus : He.DefD := ⟨("check_modulus", none), "check_modulus", "check_modulus", defArgs st_check_modulus, defBody st_check_modulus, defScope st_check_modulus, [], []⟩
def d_check_digits : He.DefD := ⟨("check_digits", none), "check_digits", "check_digits", defArgs st_check_digits, defBody st_check_digits, defScope st_check_digits, [], []⟩
def d_check_size : He.DefD := ⟨("check_size", none), "check_size", "check_size", defArgs st_check_size, defBody st_check_size, defScope st_check_size, [], []⟩
def d__law_cell : He.DefD := ⟨("_law_cell", none), "_law_cell", "_law_cell", defArgs st__law_cell, defBody st__law_cell, defScope st__law_cell, [], []⟩
def d__law_mixed : He.DefD := ⟨("_law_mixed", none), "_law_mixed", "_law_mixed", defArgs st__law_mixed, defBody st__law_mixed, defScope st__law_mixed, [], []⟩
def d__law_integer : He.DefD := ⟨("_law_integer", none), "_law_integer", "_law_integer", defArgs st__law_integer, defBody st__law_integer, defScope st__law_integer, [], []⟩
def d__law_times : He.DefD := ⟨("_law_times", none), "_law_times", "_law_times", defArgs st__law_times, defBody st__law_times, defScope st__law_times, [], []⟩
def d__law_partner : He.DefD := ⟨("_law_partner", none), "_law_partner", "_law_partner", defArgs st__law_partner, defBody st__law_partner, defScope st__law_partner, [], []⟩
def d__law_size : He.DefD := ⟨("_law_size", none), "_law_size", "_law_size", defArgs st__law_size, defBody st__law_size, defScope st__law_size, [], []⟩
def d_residue : He.DefD := ⟨("residue", none), "residue", "residue", defArgs st_residue, defBody st_residue, defScope st_residue, [], []⟩
def d_centred : He.DefD := ⟨("centred", none), "centred", "centred", defArgs st_centred, defBody st_centred, defScope st_centred, [], []⟩
def d_round_div : He.DefD := ⟨("round_div", none), "round_div", "round_div", defArgs st_round_div, defBody st_round_div, defScope st_round_div, [], []⟩
def d_check_pair : He.DefD := ⟨("check_pair", none), "check_pair", "check_pair", defArgs st_check_pair, defBody st_check_pair, defScope st_check_pair, [], []⟩
def d_zero : He.DefD := ⟨("zero", none), "zero", "zero", defArgs st_zero, defBody st_zero, defScope st_zero, [], []⟩
def d_shift : He.DefD := ⟨("shift", none), "shift", "shift", defArgs st_shift, defBody st_shift, defScope st_shift, [], []⟩
def d_turn : He.DefD := ⟨("turn", none), "turn", "turn", defArgs st_turn, defBody st_turn, defScope st_turn, [], []⟩
def d_norm : He.DefD := ⟨("norm", none), "norm", "norm", defArgs st_norm, defBody st_norm, defScope st_norm, [], []⟩
def d_norm_one : He.DefD := ⟨("norm_one", none), "norm_one", "norm_one", defArgs st_norm_one, defBody st_norm_one, defScope st_norm_one, [], []⟩
def d_worst_partner : He.DefD := ⟨("worst_partner", none), "worst_partner", "worst_partner", defArgs st_worst_partner, defBody st_worst_partner, defScope st_worst_partner, [], []⟩
def d_residues : He.DefD := ⟨("residues", none), "residues", "residues", defArgs st_residues, defBody st_residues, defScope st_residues, [], []⟩
def d__law_is_list : He.DefD := ⟨("_law_is_list", none), "_law_is_list", "_law_is_list", defArgs st__law_is_list, defBody st__law_is_list, defScope st__law_is_list, [], []⟩
def d__law_wide : He.DefD := ⟨("_law_wide", none), "_law_wide", "_law_wide", defArgs st__law_wide, defBody st__law_wide, defScope st__law_wide, [], []⟩
def d_digits : He.DefD := ⟨("digits", none), "digits", "digits", defArgs st_digits, defBody st_digits, defScope st_digits, [], []⟩
def d_add : He.DefD := ⟨("add", none), "add", "add", defArgs st_add, defBody st_add, defScope st_add, [], []⟩
def d_multiply : He.DefD := ⟨("multiply", none), "multiply", "multiply", defArgs st_multiply, defBody st_multiply, defScope st_multiply, [], []⟩
def d_centre : He.DefD := ⟨("centre", none), "centre", "centre", defArgs st_centre, defBody st_centre, defScope st_centre, [], []⟩
def d_divide : He.DefD := ⟨("divide", none), "divide", "divide", defArgs st_divide, defBody st_divide, defScope st_divide, [], []⟩
def d__law_poly : He.DefD := ⟨("_law_poly", none), "_law_poly", "_law_poly", defArgs st__law_poly, defBody st__law_poly, defScope st__law_poly, [], []⟩
def d__law_sizes : He.DefD := ⟨("_law_sizes", none), "_law_sizes", "_law_sizes", defArgs st__law_sizes, defBody st__law_sizes, defScope st__law_sizes, [], []⟩
def d_split : He.DefD := ⟨("split", none), "split", "split", defArgs st_split, defBody st_split, defScope st_split, [], []⟩
def d_evaluate : He.DefD := ⟨("evaluate", none), "evaluate", "evaluate", defArgs st_evaluate, defBody st_evaluate, defScope st_evaluate, [], []⟩
def d__law_items : He.DefD := ⟨("_law_items", none), "_law_items", "_law_items", defArgs st__law_items, defBody st__law_items, defScope st__law_items, [], []⟩
def d__law_refused : He.DefD := ⟨("_law_refused", none), "_law_refused", "_law_refused", defArgs st__law_refused, defBody st__law_refused, defScope st__law_refused, [], []⟩
def d__law_odd_sizes : He.DefD := ⟨("_law_odd_sizes", none), "_law_odd_sizes", "_law_odd_sizes", defArgs st__law_odd_sizes, defBody st__law_odd_sizes, defScope st__law_odd_sizes, [], []⟩
def d__law_bounds : He.DefD := ⟨("_law_bounds", none), "_law_bounds", "_law_bounds", defArgs st__law_bounds, defBody st__law_bounds, defScope st__law_bounds, [], []⟩
def d_law : He.DefD := ⟨("law", none), "law", "law", defArgs st_law, defBody st_law, defScope st_law, [], []⟩
def fn : List He.DefD := [d_check_modulus, d_check_digits, d_check_size, d__law_cell, d__law_mixed, d__law_integer, d__law_times, d__law_partner, d__law_size, d_residue, d_centred, d_round_div, d_check_pair, d_zero, d_shift, d_turn, d_norm, d_norm_one, d_worst_partner, d_residues, d__law_is_list, d__law_wide, d_digits, d_add, d_multiply, d_centre, d_divide, d__law_poly, d__law_sizes, d_split, d_evaluate, d__law_items, d__law_refused, d__law_odd_sizes, d__law_bounds, d_law]
def fa : List He.Fa := bltFa ++ [.glo "check_modulus", .glo "check_digits", .glo "check_size", .glo "_law_cell", .glo "_law_mixed", .glo "_law_integer", .glo "_law_times", .glo "_law_partner", .glo "_law_size", .glo "residue", .glo "centred", .glo "round_div", .glo "check_pair", .glo "zero", .glo "shift", .glo "turn", .glo "norm", .glo "norm_one", .glo "worst_partner", .glo "residues", .glo "_law_is_list", .glo "_law_wide", .glo "digits", .glo "add", .glo "multiply", .glo "centre", .glo "divide", .glo "_law_poly", .glo "_law_sizes", .glo "split", .glo "evaluate", .glo "_law_items", .glo "_law_refused", .glo "_law_odd_sizes", .glo "_law_bounds", .glo "law", .glo "OutOfRange", .glo "PurseError"]
abbrev R : PySem.W.OpenRow := PySem.W.OpenLaw.row PySem.Challenge.rw_noisepurse_k03_norms_and_worst_partners
abbrev hk : PySem.W.Hook := hookV 4 fa fn
def ob (s : PySem.W.SharedT) : (Bool × Bool) × He.AlD := obsVG 4 fa fn (HandSHeadRun.getT s)
theorem ob_eq (s : PySem.W.SharedT) : ob s = hk.obs s.abs := obsVG_eq (HandSHeadRun.getT_eq s)
theorem run (w : World) : HandSHeadRun.RunEq R (PySem.W.view R.prog [41]) hk ob 4000 (("PurseError" : Str) :: ("OutOfRange" : Str) :: ("check_modulus" : Str) :: ("residue" : Str) :: ("centred" : Str) :: ("round_div" : Str) :: ("check_digits" : Str) :: ("digits" : Str) :: ("check_size" : Str) :: ("check_pair" : Str) :: ("zero" : Str) :: ("add" : Str) :: ("multiply" : Str) :: ("shift" : Str) :: ("turn" : Str) :: ("norm" : Str) :: ("norm_one" : Str) :: ("worst_partner" : Str) :: ("residues" : Str) :: ("centre" : Str) :: ("divide" : Str) :: ("split" : Str) :: ("evaluate" : Str) :: ("_law_cell" : Str) :: ("_law_mixed" : Str) :: ("_law_integer" : Str) :: ("_law_is_list" : Str) :: ("_law_wide" : Str) :: ("_law_poly" : Str) :: ("_law_times" : Str) :: ("_law_partner" : Str) :: ("_law_sizes" : Str) :: ("_law_items" : Str) :: ("_law_refused" : Str) :: ("_law_odd_sizes" : Str) :: ("_law_bounds" : Str) :: ("_law_size" : Str) :: []) w := by
  intro os
  kernel_rfl
theorem facts {P : Program} {w : World} {K : PySem.W.Frag} {h : Heap} {mg : Str → Option Value} {f : Addr} (X : K.In h) (G : h.Ns mainGlobals mg) (hfa : mg ("law" : Str) = some (.ref f)) (c : SaysV fa fn K) :
    ∃ fd : FuncData, (∀ (s : Shared) (v : Value), BindsTo s fd ⟨[v], []⟩ [("script", v)]) ∧ ∀ base : Heap, K.In base → base.Ns mainGlobals mg → FnOk P w K mg base (L2.CX P w) 8 f fd ["script"] (spF ⟨K, mg, none⟩ 1 f_law 0) := by
  have t : Tx K mg := ⟨⟨He.free_ok X G (c.d.fact 0 (f := .free "abs") rfl), He.free_ok X G (c.d.fact 1 (f := .free "len") rfl), He.free_ok X G (c.d.fact 2 (f := .free "max") rfl), He.free_ok X G (c.d.fact 3 (f := .free "min") rfl), He.free_ok X G (c.d.fact 4 (f := .free "sum") rfl), He.free_ok X G (c.d.fact 5 (f := .free "isinstance") rfl), He.free_ok X G (c.d.fact 6 (f := .free "int") rfl), He.free_ok X G (c.d.fact 7 (f := .free "bool") rfl), He.free_ok X G (c.d.fact 8 (f := .free "str") rfl), He.free_ok X G (c.d.fact 9 (f := .free "list") rfl), He.free_ok X G (c.d.fact 10 (f := .free "tuple") rfl), He.free_ok X G (c.d.fact 11 (f := .free "range") rfl), He.free_ok X G (c.d.fact 12 (f := .free "reversed") rfl), He.free_ok X G (c.d.fact 13 (f := .free "enumerate") rfl), He.free_ok X G (c.d.fact 14 (f := .free "zip") rfl), He.free_ok X G (c.d.fact 15 (f := .free "sorted") rfl), He.free_ok X G (c.d.fact 16 (f := .free "any") rfl), He.free_ok X G (c.d.fact 17 (f := .free "all") rfl), He.free_ok X G (c.d.fact 18 (f := .free "ValueError") rfl), He.free_ok X G (c.d.fact 19 (f := .free "dict") rfl)⟩, erT_of X G c.er, clT_of X G c.cl⟩
  obtain ⟨fd_check_modulus, F_check_modulus⟩ := c.d.def_ 0 (d := d_check_modulus) rfl
  have m_check_modulus : mg "check_modulus" = some (.ref (He.fAd K ("check_modulus", none))) := He.glo_ok X G (c.d.fact 20 (f := .glo "check_modulus") rfl)
  obtain ⟨fd_check_digits, F_check_digits⟩ := c.d.def_ 1 (d := d_check_digits) rfl
  have m_check_digits : mg "check_digits" = some (.ref (He.fAd K ("check_digits", none))) := He.glo_ok X G (c.d.fact 21 (f := .glo "check_digits") rfl)
  obtain ⟨fd_check_size, F_check_size⟩ := c.d.def_ 2 (d := d_check_size) rfl
  have m_check_size : mg "check_size" = some (.ref (He.fAd K ("check_size", none))) := He.glo_ok X G (c.d.fact 22 (f := .glo "check_size") rfl)
  obtain ⟨fd__law_cell, F__law_cell⟩ := c.d.def_ 3 (d := d__law_cell) rfl
  have m__law_cell : mg "_law_cell" = some (.ref (He.fAd K ("_law_cell", none))) := He.glo_ok X G (c.d.fact 23 (f := .glo "_law_cell") rfl)
  obtain ⟨fd__law_mixed, F__law_mixed⟩ := c.d.def_ 4 (d := d__law_mixed) rfl
  have m__law_mixed : mg "_law_mixed" = some (.ref (He.fAd K ("_law_mixed", none))) := He.glo_ok X G (c.d.fact 24 (f := .glo "_law_mixed") rfl)
  obtain ⟨fd__law_integer, F__law_integer⟩ := c.d.def_ 5 (d := d__law_integer) rfl
  have m__law_integer : mg "_law_integer" = some (.ref (He.fAd K ("_law_integer", none))) := He.glo_ok X G (c.d.fact 25 (f := .glo "_law_integer") rfl)
  obtain ⟨fd__law_times, F__law_times⟩ := c.d.def_ 6 (d := d__law_times) rfl
  have m__law_times : mg "_law_times" = some (.ref (He.fAd K ("_law_times", none))) := He.glo_ok X G (c.d.fact 26 (f := .glo "_law_times") rfl)
  obtain ⟨fd__law_partner, F__law_partner⟩ := c.d.def_ 7 (d := d__law_partner) rfl
  have m__law_partner : mg "_law_partner" = some (.ref (He.fAd K ("_law_partner", none))) := He.glo_ok X G (c.d.fact 27 (f := .glo "_law_partner") rfl)
  obtain ⟨fd__law_size, F__law_size⟩ := c.d.def_ 8 (d := d__law_size) rfl
  have m__law_size : mg "_law_size" = some (.ref (He.fAd K ("_law_size", none))) := He.glo_ok X G (c.d.fact 28 (f := .glo "_law_size") rfl)
  obtain ⟨fd_residue, F_residue⟩ := c.d.def_ 9 (d := d_residue) rfl
  have m_residue : mg "residue" = some (.ref (He.fAd K ("residue", none))) := He.glo_ok X G (c.d.fact 29 (f := .glo "residue") rfl)
  obtain ⟨fd_centred, F_centred⟩ := c.d.def_ 10 (d := d_centred) rfl
  have m_centred : mg "centred" = some (.ref (He.fAd K ("centred", none))) := He.glo_ok X G (c.d.fact 30 (f := .glo "centred") rfl)
  obtain ⟨fd_round_div, F_round_div⟩ := c.d.def_ 11 (d := d_round_div) rfl
  have m_round_div : mg "round_div" = some (.ref (He.fAd K ("round_div", none))) := He.glo_ok X G (c.d.fact 31 (f := .glo "round_div") rfl)
  obtain ⟨fd_check_pair, F_check_pair⟩ := c.d.def_ 12 (d := d_check_pair) rfl
  have m_check_pair : mg "check_pair" = some (.ref (He.fAd K ("check_pair", none))) := He.glo_ok X G (c.d.fact 32 (f := .glo "check_pair") rfl)
  obtain ⟨fd_zero, F_zero⟩ := c.d.def_ 13 (d := d_zero) rfl
  have m_zero : mg "zero" = some (.ref (He.fAd K ("zero", none))) := He.glo_ok X G (c.d.fact 33 (f := .glo "zero") rfl)
  obtain ⟨fd_shift, F_shift⟩ := c.d.def_ 14 (d := d_shift) rfl
  have m_shift : mg "shift" = some (.ref (He.fAd K ("shift", none))) := He.glo_ok X G (c.d.fact 34 (f := .glo "shift") rfl)
  obtain ⟨fd_turn, F_turn⟩ := c.d.def_ 15 (d := d_turn) rfl
  have m_turn : mg "turn" = some (.ref (He.fAd K ("turn", none))) := He.glo_ok X G (c.d.fact 35 (f := .glo "turn") rfl)
  obtain ⟨fd_norm, F_norm⟩ := c.d.def_ 16 (d := d_norm) rfl
  have m_norm : mg "norm" = some (.ref (He.fAd K ("norm", none))) := He.glo_ok X G (c.d.fact 36 (f := .glo "norm") rfl)
  obtain ⟨fd_norm_one, F_norm_one⟩ := c.d.def_ 17 (d := d_norm_one) rfl
  have m_norm_one : mg "norm_one" = some (.ref (He.fAd K ("norm_one", none))) := He.glo_ok X G (c.d.fact 37 (f := .glo "norm_one") rfl)
  obtain ⟨fd_worst_partner, F_worst_partner⟩ := c.d.def_ 18 (d := d_worst_partner) rfl
  have m_worst_partner : mg "worst_partner" = some (.ref (He.fAd K ("worst_partner", none))) := He.glo_ok X G (c.d.fact 38 (f := .glo "worst_partner") rfl)
  obtain ⟨fd_residues, F_residues⟩ := c.d.def_ 19 (d := d_residues) rfl
  have m_residues : mg "residues" = some (.ref (He.fAd K ("residues", none))) := He.glo_ok X G (c.d.fact 39 (f := .glo "residues") rfl)
  obtain ⟨fd__law_is_list, F__law_is_list⟩ := c.d.def_ 20 (d := d__law_is_list) rfl
  have m__law_is_list : mg "_law_is_list" = some (.ref (He.fAd K ("_law_is_list", none))) := He.glo_ok X G (c.d.fact 40 (f := .glo "_law_is_list") rfl)
  obtain ⟨fd__law_wide, F__law_wide⟩ := c.d.def_ 21 (d := d__law_wide) rfl
  have m__law_wide : mg "_law_wide" = some (.ref (He.fAd K ("_law_wide", none))) := He.glo_ok X G (c.d.fact 41 (f := .glo "_law_wide") rfl)
  obtain ⟨fd_digits, F_digits⟩ := c.d.def_ 22 (d := d_digits) rfl
  have m_digits : mg "digits" = some (.ref (He.fAd K ("digits", none))) := He.glo_ok X G (c.d.fact 42 (f := .glo "digits") rfl)
  obtain ⟨fd_add, F_add⟩ := c.d.def_ 23 (d := d_add) rfl
  have m_add : mg "add" = some (.ref (He.fAd K ("add", none))) := He.glo_ok X G (c.d.fact 43 (f := .glo "add") rfl)
  obtain ⟨fd_multiply, F_multiply⟩ := c.d.def_ 24 (d := d_multiply) rfl
  have m_multiply : mg "multiply" = some (.ref (He.fAd K ("multiply", none))) := He.glo_ok X G (c.d.fact 44 (f := .glo "multiply") rfl)
  obtain ⟨fd_centre, F_centre⟩ := c.d.def_ 25 (d := d_centre) rfl
  have m_centre : mg "centre" = some (.ref (He.fAd K ("centre", none))) := He.glo_ok X G (c.d.fact 45 (f := .glo "centre") rfl)
  obtain ⟨fd_divide, F_divide⟩ := c.d.def_ 26 (d := d_divide) rfl
  have m_divide : mg "divide" = some (.ref (He.fAd K ("divide", none))) := He.glo_ok X G (c.d.fact 46 (f := .glo "divide") rfl)
  obtain ⟨fd__law_poly, F__law_poly⟩ := c.d.def_ 27 (d := d__law_poly) rfl
  have m__law_poly : mg "_law_poly" = some (.ref (He.fAd K ("_law_poly", none))) := He.glo_ok X G (c.d.fact 47 (f := .glo "_law_poly") rfl)
  obtain ⟨fd__law_sizes, F__law_sizes⟩ := c.d.def_ 28 (d := d__law_sizes) rfl
  have m__law_sizes : mg "_law_sizes" = some (.ref (He.fAd K ("_law_sizes", none))) := He.glo_ok X G (c.d.fact 48 (f := .glo "_law_sizes") rfl)
  obtain ⟨fd_split, F_split⟩ := c.d.def_ 29 (d := d_split) rfl
  have m_split : mg "split" = some (.ref (He.fAd K ("split", none))) := He.glo_ok X G (c.d.fact 49 (f := .glo "split") rfl)
  obtain ⟨fd_evaluate, F_evaluate⟩ := c.d.def_ 30 (d := d_evaluate) rfl
  have m_evaluate : mg "evaluate" = some (.ref (He.fAd K ("evaluate", none))) := He.glo_ok X G (c.d.fact 50 (f := .glo "evaluate") rfl)
  obtain ⟨fd__law_items, F__law_items⟩ := c.d.def_ 31 (d := d__law_items) rfl
  have m__law_items : mg "_law_items" = some (.ref (He.fAd K ("_law_items", none))) := He.glo_ok X G (c.d.fact 51 (f := .glo "_law_items") rfl)
  obtain ⟨fd__law_refused, F__law_refused⟩ := c.d.def_ 32 (d := d__law_refused) rfl
  have m__law_refused : mg "_law_refused" = some (.ref (He.fAd K ("_law_refused", none))) := He.glo_ok X G (c.d.fact 52 (f := .glo "_law_refused") rfl)
  obtain ⟨fd__law_odd_sizes, F__law_odd_sizes⟩ := c.d.def_ 33 (d := d__law_odd_sizes) rfl
  have m__law_odd_sizes : mg "_law_odd_sizes" = some (.ref (He.fAd K ("_law_odd_sizes", none))) := He.glo_ok X G (c.d.fact 53 (f := .glo "_law_odd_sizes") rfl)
  obtain ⟨fd__law_bounds, F__law_bounds⟩ := c.d.def_ 34 (d := d__law_bounds) rfl
  have m__law_bounds : mg "_law_bounds" = some (.ref (He.fAd K ("_law_bounds", none))) := He.glo_ok X G (c.d.fact 54 (f := .glo "_law_bounds") rfl)
  obtain ⟨fd_law, F_law⟩ := c.d.def_ 35 (d := d_law) rfl
  have e := hfa.symm.trans (He.glo_ok X G (c.d.fact 55 (f := .glo "law") rfl))
  cases e
  have g_OutOfRange : mg "OutOfRange" = some (.ref (He.ga K "OutOfRange")) := He.glo_ok X G (c.d.fact 56 (f := .glo "OutOfRange") rfl)
  have g_PurseError : mg "PurseError" = some (.ref (He.ga K "PurseError")) := He.glo_ok X G (c.d.fact 57 (f := .glo "PurseError") rfl)
  have b := FunD.bindsA (ps := ["script"]) F_law fun _ _ _ _ _ _ us hl => match us, hl with | [_], _ => rfl
  refine ⟨fd_law, fun s v => b s [v] rfl, fun base _ _ => ?_⟩
  have o_check_modulus := ok_check_modulus (P := P) (w := w) (base := base) t g_OutOfRange  F_check_modulus
  have c_check_modulus := FnS_of m_check_modulus F_check_modulus.kp o_check_modulus (FunD.bindsN (ps := ["k"]) F_check_modulus fun _ _ _ _ _ _ us hl => match us, hl with | [_], _ => rfl)
  have o_check_digits := ok_check_digits (P := P) (w := w) (base := base) t g_OutOfRange  F_check_digits
  have c_check_digits := FnS_of m_check_digits F_check_digits.kp o_check_digits (FunD.bindsN (ps := ["base", "count"]) F_check_digits fun _ _ _ _ _ _ us hl => match us, hl with | [_, _], _ => rfl)
  have o_check_size := ok_check_size (P := P) (w := w) (base := base) t g_OutOfRange  F_check_size
  have c_check_size := FnS_of m_check_size F_check_size.kp o_check_size (FunD.bindsN (ps := ["size"]) F_check_size fun _ _ _ _ _ _ us hl => match us, hl with | [_], _ => rfl)
  have o__law_cell := ok__law_cell (P := P) (w := w) (base := base) t   F__law_cell
  have c__law_cell := FnS_of m__law_cell F__law_cell.kp o__law_cell (FunD.bindsN (ps := ["script", "k"]) F__law_cell fun _ _ _ _ _ _ us hl => match us, hl with | [_, _], _ => rfl)
  have o__law_mixed := ok__law_mixed (P := P) (w := w) (base := base) t   F__law_mixed
  have c__law_mixed := FnS_of m__law_mixed F__law_mixed.kp o__law_mixed (FunD.bindsN (ps := ["cell", "k"]) F__law_mixed fun _ _ _ _ _ _ us hl => match us, hl with | [_, _], _ => rfl)
  have o__law_integer := ok__law_integer (P := P) (w := w) (base := base) t   F__law_integer
  have c__law_integer := FnS_of m__law_integer F__law_integer.kp o__law_integer (FunD.bindsN (ps := ["actual"]) F__law_integer fun _ _ _ _ _ _ us hl => match us, hl with | [_], _ => rfl)
  have o__law_times := ok__law_times (P := P) (w := w) (base := base) t   F__law_times
  have c__law_times := FnS_of m__law_times F__law_times.kp o__law_times (FunD.bindsN (ps := ["a", "b"]) F__law_times fun _ _ _ _ _ _ us hl => match us, hl with | [_, _], _ => rfl)
  have o__law_partner := ok__law_partner (P := P) (w := w) (base := base) t   F__law_partner
  have c__law_partner := FnS_of m__law_partner F__law_partner.kp o__law_partner (FunD.bindsN (ps := ["a", "place", "most"]) F__law_partner fun _ _ _ _ _ _ us hl => match us, hl with | [_, _, _], _ => rfl)
  have o__law_size := ok__law_size (P := P) (w := w) (base := base) t   F__law_size
  have c__law_size := FnS_of m__law_size F__law_size.kp o__law_size (FunD.bindsN (ps := ["cell"]) F__law_size fun _ _ _ _ _ _ us hl => match us, hl with | [_], _ => rfl)
  have o_residue := ok_residue (P := P) (w := w) (base := base) t  c_check_modulus F_residue
  have c_residue := FnS_of m_residue F_residue.kp o_residue (FunD.bindsN (ps := ["a", "k"]) F_residue fun _ _ _ _ _ _ us hl => match us, hl with | [_, _], _ => rfl)
  have o_centred := ok_centred (P := P) (w := w) (base := base) t  c_check_modulus F_centred
  have c_centred := FnS_of m_centred F_centred.kp o_centred (FunD.bindsN (ps := ["a", "k"]) F_centred fun _ _ _ _ _ _ us hl => match us, hl with | [_, _], _ => rfl)
  have o_round_div := ok_round_div (P := P) (w := w) (base := base) t  c_check_modulus F_round_div
  have c_round_div := FnS_of m_round_div F_round_div.kp o_round_div (FunD.bindsN (ps := ["a", "b"]) F_round_div fun _ _ _ _ _ _ us hl => match us, hl with | [_, _], _ => rfl)
  have o_check_pair := ok_check_pair (P := P) (w := w) (base := base) t g_OutOfRange c_check_size F_check_pair
  have c_check_pair := FnS_of m_check_pair F_check_pair.kp o_check_pair (FunD.bindsN (ps := ["a", "b"]) F_check_pair fun _ _ _ _ _ _ us hl => match us, hl with | [_, _], _ => rfl)
  have o_zero := ok_zero (P := P) (w := w) (base := base) t  c_check_size F_zero
  have c_zero := FnS_of m_zero F_zero.kp o_zero (FunD.bindsN (ps := ["size"]) F_zero fun _ _ _ _ _ _ us hl => match us, hl with | [_], _ => rfl)
  have o_shift := ok_shift (P := P) (w := w) (base := base) t  c_check_size F_shift
  have c_shift := FnS_of m_shift F_shift.kp o_shift (FunD.bindsN (ps := ["a", "k"]) F_shift fun _ _ _ _ _ _ us hl => match us, hl with | [_, _], _ => rfl)
  have o_turn := ok_turn (P := P) (w := w) (base := base) t g_OutOfRange c_check_size F_turn
  have c_turn := FnS_of m_turn F_turn.kp o_turn (FunD.bindsN (ps := ["a", "k"]) F_turn fun _ _ _ _ _ _ us hl => match us, hl with | [_, _], _ => rfl)
  have o_norm := ok_norm (P := P) (w := w) (base := base) t  c_check_size F_norm
  have c_norm := FnS_of m_norm F_norm.kp o_norm (FunD.bindsN (ps := ["a"]) F_norm fun _ _ _ _ _ _ us hl => match us, hl with | [_], _ => rfl)
  have o_norm_one := ok_norm_one (P := P) (w := w) (base := base) t  c_check_size F_norm_one
  have c_norm_one := FnS_of m_norm_one F_norm_one.kp o_norm_one (FunD.bindsN (ps := ["a"]) F_norm_one fun _ _ _ _ _ _ us hl => match us, hl with | [_], _ => rfl)
  have o_worst_partner := ok_worst_partner (P := P) (w := w) (base := base) t g_OutOfRange c_check_size F_worst_partner
  have c_worst_partner := FnS_of m_worst_partner F_worst_partner.kp o_worst_partner (FunD.bindsN (ps := ["a", "place", "size"]) F_worst_partner fun _ _ _ _ _ _ us hl => match us, hl with | [_, _, _], _ => rfl)
  have o_residues := ok_residues (P := P) (w := w) (base := base) t  c_check_size c_check_modulus F_residues
  have c_residues := FnS_of m_residues F_residues.kp o_residues (FunD.bindsN (ps := ["a", "k"]) F_residues fun _ _ _ _ _ _ us hl => match us, hl with | [_, _], _ => rfl)
  have o__law_is_list := ok__law_is_list (P := P) (w := w) (base := base) t  c__law_integer F__law_is_list
  have c__law_is_list := FnS_of m__law_is_list F__law_is_list.kp o__law_is_list (FunD.bindsN (ps := ["actual", "due"]) F__law_is_list fun _ _ _ _ _ _ us hl => match us, hl with | [_, _], _ => rfl)
  have o__law_wide := ok__law_wide (P := P) (w := w) (base := base) t  c__law_mixed F__law_wide
  have c__law_wide := FnS_of m__law_wide F__law_wide.kp o__law_wide (FunD.bindsN (ps := ["cell", "k", "most"]) F__law_wide fun _ _ _ _ _ _ us hl => match us, hl with | [_, _, _], _ => rfl)
  have o_digits := ok_digits (P := P) (w := w) (base := base) t  c_check_digits c_centred F_digits
  have c_digits := FnS_of m_digits F_digits.kp o_digits (FunD.bindsN (ps := ["v", "base", "count"]) F_digits fun _ _ _ _ _ _ us hl => match us, hl with | [_, _, _], _ => rfl)
  have o_add := ok_add (P := P) (w := w) (base := base) t  c_check_pair F_add
  have c_add := FnS_of m_add F_add.kp o_add (FunD.bindsN (ps := ["a", "b"]) F_add fun _ _ _ _ _ _ us hl => match us, hl with | [_, _], _ => rfl)
  have o_multiply := ok_multiply (P := P) (w := w) (base := base) t  c_check_pair F_multiply
  have c_multiply := FnS_of m_multiply F_multiply.kp o_multiply (FunD.bindsN (ps := ["a", "b"]) F_multiply fun _ _ _ _ _ _ us hl => match us, hl with | [_, _], _ => rfl)
  have o_centre := ok_centre (P := P) (w := w) (base := base) t  c_check_size c_check_modulus c_centred F_centre
  have c_centre := FnS_of m_centre F_centre.kp o_centre (FunD.bindsN (ps := ["a", "k"]) F_centre fun _ _ _ _ _ _ us hl => match us, hl with | [_, _], _ => rfl)
  have o_divide := ok_divide (P := P) (w := w) (base := base) t  c_check_size c_check_modulus c_round_div F_divide
  have c_divide := FnS_of m_divide F_divide.kp o_divide (FunD.bindsN (ps := ["a", "factor", "divisor"]) F_divide fun _ _ _ _ _ _ us hl => match us, hl with | [_, _, _], _ => rfl)
  have o__law_poly := ok__law_poly (P := P) (w := w) (base := base) t  c__law_wide F__law_poly
  have c__law_poly := FnS_of m__law_poly F__law_poly.kp o__law_poly (FunD.bindsN (ps := ["cell", "size", "most"]) F__law_poly fun _ _ _ _ _ _ us hl => match us, hl with | [_, _, _], _ => rfl)
  have o__law_sizes := ok__law_sizes (P := P) (w := w) (base := base) t  c__law_integer c_norm c_norm_one c_turn c_shift c__law_times F__law_sizes
  have c__law_sizes := FnS_of m__law_sizes F__law_sizes.kp o__law_sizes (FunD.bindsN (ps := ["a", "b", "k"]) F__law_sizes fun _ _ _ _ _ _ us hl => match us, hl with | [_, _, _], _ => rfl)
  have o_split := ok_split (P := P) (w := w) (base := base) t  c_check_size c_check_digits c_digits F_split
  have c_split := FnS_of m_split F_split.kp o_split (FunD.bindsN (ps := ["a", "base", "count"]) F_split fun _ _ _ _ _ _ us hl => match us, hl with | [_, _, _], _ => rfl)
  have o_evaluate := ok_evaluate (P := P) (w := w) (base := base) t g_OutOfRange c_zero c_add c_multiply F_evaluate
  have c_evaluate := FnS_of m_evaluate F_evaluate.kp o_evaluate (FunD.bindsN (ps := ["parts", "s"]) F_evaluate fun _ _ _ _ _ _ us hl => match us, hl with | [_, _], _ => rfl)
  have o__law_items := ok__law_items (P := P) (w := w) (base := base) t  c__law_is_list c_residue c_residues c_centred c_centre c_round_div c_divide c_split c_digits F__law_items
  have c__law_items := FnS_of m__law_items F__law_items.kp o__law_items (FunD.bindsN (ps := ["a", "k", "base", "count"]) F__law_items fun _ _ _ _ _ _ us hl => match us, hl with | [_, _, _, _], _ => rfl)
  have o__law_refused := ok__law_refused (P := P) (w := w) (base := base) t g_OutOfRange g_PurseError c_worst_partner c_centre c_residues c_divide c_split c_evaluate c_norm c_norm_one F__law_refused
  have c__law_refused := FnS_of m__law_refused F__law_refused.kp o__law_refused (FunD.bindsN (ps := ["which", "a", "bad"]) F__law_refused fun _ _ _ _ _ _ us hl => match us, hl with | [_, _, _], _ => rfl)
  have o__law_odd_sizes := ok__law_odd_sizes (P := P) (w := w) (base := base) t  c__law_refused F__law_odd_sizes
  have c__law_odd_sizes := FnS_of m__law_odd_sizes F__law_odd_sizes.kp o__law_odd_sizes (FunD.bindsN (ps := ["a"]) F__law_odd_sizes fun _ _ _ _ _ _ us hl => match us, hl with | [_], _ => rfl)
  have o__law_bounds := ok__law_bounds (P := P) (w := w) (base := base) t  c__law_refused c__law_odd_sizes F__law_bounds
  have c__law_bounds := FnS_of m__law_bounds F__law_bounds.kp o__law_bounds (FunD.bindsN (ps := ["a", "cell"]) F__law_bounds fun _ _ _ _ _ _ us hl => match us, hl with | [_, _], _ => rfl)
  exact ok_law t  c__law_size c__law_cell c__law_poly c__law_sizes c_worst_partner c__law_is_list c__law_partner c_multiply c_norm_one c_norm c__law_items c__law_bounds c__law_times c_evaluate F_law
end K03
open PySem PySem.W PySem.Calls PyProof.Rows
theorem PySem.Challenge.cw_noisepurse_k03_norms_and_worst_partners_holds : PySem.Challenge.rw_noisepurse_k03_norms_and_worst_partners.Holds := by
  w_on; o_law
  refine HandSHeadRun.head_any (r := OpenLaw.row PySem.Challenge.rw_noisepurse_k03_norms_and_worst_partners) (q := view (OpenLaw.row PySem.Challenge.rw_noisepurse_k03_norms_and_worst_partners).prog [41]) (H := K03.hk) (ob := K03.ob) (M := 4000) (loose := (("PurseError" : Str) :: ("OutOfRange" : Str) :: ("check_modulus" : Str) :: ("residue" : Str) :: ("centred" : Str) :: ("round_div" : Str) :: ("check_digits" : Str) :: ("digits" : Str) :: ("check_size" : Str) :: ("check_pair" : Str) :: ("zero" : Str) :: ("add" : Str) :: ("multiply" : Str) :: ("shift" : Str) :: ("turn" : Str) :: ("norm" : Str) :: ("norm_one" : Str) :: ("worst_partner" : Str) :: ("residues" : Str) :: ("centre" : Str) :: ("divide" : Str) :: ("split" : Str) :: ("evaluate" : Str) :: ("_law_cell" : Str) :: ("_law_mixed" : Str) :: ("_law_integer" : Str) :: ("_law_is_list" : Str) :: ("_law_wide" : Str) :: ("_law_poly" : Str) :: ("_law_times" : Str) :: ("_law_partner" : Str) :: ("_law_sizes" : Str) :: ("_law_items" : Str) :: ("_law_refused" : Str) :: ("_law_odd_sizes" : Str) :: ("_law_bounds" : Str) :: ("_law_size" : Str) :: [])) (d := HandSHeadRun.topDef (OpenLaw.row PySem.Challenge.rw_noisepurse_k03_norms_and_worst_partners).prog 41) (kwd := []) K03.ob_eq
    (by kernel_rfl) (fun s => by kernel_rfl) K03.run (by kernel_rfl) (by kernel_rfl) (by kernel_rfl) (by rfl) (by first | assumption | decide +kernel) (by decide +kernel) ⟨rfl, rfl, rfl, rfl, rfl, by decide +kernel⟩ ?hw ?hc
  case hw => w_witness2
  case hc =>
    refine VL.walk_ofV (l := PySem.Challenge.rw_noisepurse_k03_norms_and_worst_partners) (n := 63) (k := 8) (x := "script") rfl (by decide) (by kernel_rfl) ⟨rfl, by decide, by decide⟩ ?F
    intro w mg fa h Y G hmg0
    obtain ⟨K, KX, c⟩ := Y
    have hmg : mg ("law" : PySem.Str) = some (.ref fa) := by
      have e : (HandSHeadRun.topDef (OpenLaw.row PySem.Challenge.rw_noisepurse_k03_norms_and_worst_partners).prog 41).name = ("law" : PySem.Str) := by kernel_rfl
      rw [← e]
      exact hmg0
    obtain ⟨fd, hb, hF⟩ := K03.facts (P := (PySem.Challenge.rw_noisepurse_k03_norms_and_worst_partners).prog) (w := w) KX G hmg c
    exact ⟨K, fd, VL.spF ⟨K, mg, none⟩ 1 K03.f_law 0, KX, c.nl, hb, fun H a ns hl hbits hS => VL.law_sp hS (K03.math ns hl hbits), hF⟩
