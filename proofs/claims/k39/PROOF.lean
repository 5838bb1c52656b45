import PyProof.Rows.All
import Wide.All
import OpenK.AllK
import Wide.FinOn
import PyProof.EqAt
import PyProof.EqKinds
import PyProof.TupleCall
import HandS.ForMost
import HandS.ForExc
import HandS.Wide
import HandS.WideBits
import HandS.Rev
import HandS.IsInst
import HandS.ExcIs
import HandS.Defaults
import HandS.Style
import HandS.Conv
import HandS.Deep
import HandS.HeadHook1
import HandS.HeadHook2
import HandS.TryOnly
import HandS.Iter
import HandS.Head0
import HandS.Head1
import HandS.Head2
import HandS.HeadEnd
import HandS.EndBits
import PySem.Challenge.RW_noisepurse_k39_lowered_rows
set_option Elab.async false
set_option linter.all false
set_option maxRecDepth 100000
set_option maxHeartbeats 0
/-! VLCore: values as trees, what the pieces of Python do to them (plain Lean). -/
namespace VL
open PySem
/-! ### errors, values -/
inductive Er where
  | purse | range | malformed | refused | notThere | spent | badLine | valueE | indexE | keyE | zeroE | typeE
  deriving DecidableEq
def Er.name : Er → Str
  | .purse => "PurseError" | .range => "OutOfRange" | .malformed => "Malformed" | .refused => "Refused" | .notThere => "NotThere" | .spent => "Spent" | .badLine => "BadLine"
  | .valueE => "ValueError" | .indexE => "IndexError" | .keyE => "KeyError" | .zeroE => "ZeroDivisionError" | .typeE => "TypeError"
def Er.own : Er → Bool
  | .purse | .range | .malformed | .refused | .notThere | .spent | .badLine => true
  | _ => false
/-- is a's class b's, or below it -/
def Er.sub (a b : Er) : Bool := decide (a = b) || (a.own && (decide (b = .purse) || decide (b = .valueE)))
inductive D where
  | non | bl (b : Bool) | int (i : Int) | str (x : Str) | byt (b : Array UInt8)
  | lst (xs : List D) | tup (xs : List D) | ins (c : Nat) (fs : List D)
  deriving Inhabited
abbrev Env := List (Option D)
inductive Res (α : Type) where
  | ok (a : α) | exc (e : Er) | stuck
def Res.bind {α β : Type} (r : Res α) (f : α → Res β) : Res β := match r with
  | .ok a => f a
  | .exc e => .exc e
  | .stuck => .stuck
theorem Res.ok_bind {α β : Type} (a : α) (f : α → Res β) : (Res.ok a).bind f = f a := rfl
theorem Res.exc_bind {α β : Type} (e : Er) (f : α → Res β) : (Res.exc e).bind f = .exc e := rfl
theorem Res.stuck_bind {α β : Type} (f : α → Res β) : Res.stuck.bind f = .stuck := rfl
inductive Fl where
  | nx (η : Env) | rt (d : D) | bk (η : Env) | ct (η : Env) | ex (e : Er) (η : Env) | stuck
abbrev M (α : Type) := Env → Res α
/-- the classes by number: name, fields in the order in which __init__ stores them -/
def clsTab : Nat → Str × List Str
  | _ => ("?", [])
/-! ### data that == compares -/
mutual
def D.toPD : D → PyData
  | .non => .none
  | .bl b => .bool b
  | .int i => .int i
  | .str x => .str x
  | .lst xs => .list (D.toPDs xs)
  | .tup xs => .tuple (D.toPDs xs)
  | .byt _ => .none
  | .ins _ _ => .none
def D.toPDs : List D → List PyData
  | [] => []
  | d :: ds => D.toPD d :: D.toPDs ds
end
mutual
/-- none, bools, ints, texts, lists and tuples of such -/
def D.plain : D → Bool
  | .non => true
  | .bl _ => true
  | .int _ => true
  | .str _ => true
  | .lst xs => D.plains xs
  | .tup xs => D.plains xs
  | .byt _ => false
  | .ins _ _ => false
def D.plains : List D → Bool
  | [] => true
  | d :: ds => D.plain d && D.plains ds
end
def D.eqOk (d : D) : Bool := d.plain && SeqAt.shaped d.toPD
def D.eqv (a b : D) : Bool := PyData.eqv a.toPD b.toPD
/-! ### operators -/
def line : Nat := 16777216
def mulOk (i j : Int) : Bool := decide (i.natAbs.log2 + j.natAbs.log2 < 134000000)
def divOk (i j : Int) : Bool := decide (0 < j) && (decide (j.natAbs.log2 < 9000) || decide (i.natAbs.log2 ≤ j.natAbs.log2 + 4000))
def shlOk (i j : Int) : Bool := decide (0 ≤ j) && decide (i.natAbs.log2 + 1 + j.toNat ≤ 134000000)
def powOk (i j : Int) : Bool := decide (0 ≤ j) && (decide (j ≤ 1000000) && decide (i.natAbs < 2 ^ 64))
def opAdd : D → D → Res D
  | .int i, .int j => .ok (.int (i + j))
  | .lst xs, .lst ys => if xs.length + ys.length ≤ line then .ok (.lst (xs ++ ys)) else .stuck
  | .tup xs, .tup ys => if xs ≠ [] ∧ xs.length + ys.length ≤ line then .ok (.tup (xs ++ ys)) else .stuck
  | _, _ => .stuck
def opSub : D → D → Res D
  | .int i, .int j => .ok (.int (i - j))
  | _, _ => .stuck
def opMul : D → D → Res D
  | .int i, .int j => if mulOk i j then .ok (.int (i * j)) else .stuck
  | .lst xs, .int k => if k < 16777217 ∧ -16777217 < k ∧ xs.length * k.toNat ≤ line then .ok (.lst (List.replicate k.toNat xs).flatten) else .stuck
  | _, _ => .stuck
def opDiv : D → D → Res D
  | .int i, .int j => if divOk i j then .ok (.int (i / j)) else .stuck
  | _, _ => .stuck
def opMod : D → D → Res D
  | .int i, .int j => if 0 < j then .ok (.int (i % j)) else .stuck
  | _, _ => .stuck
def opPow : D → D → Res D
  | .int i, .int j => if powOk i j then .ok (.int (i ^ j.toNat)) else .stuck
  | _, _ => .stuck
def opShl : D → D → Res D
  | .int i, .int j => if shlOk i j then .ok (.int (i * 2 ^ j.toNat)) else .stuck
  | _, _ => .stuck
def opShr : D → D → Res D
  | .int i, .int j => if 0 ≤ j then .ok (.int (i / 2 ^ j.toNat)) else .stuck
  | _, _ => .stuck
def opAnd : D → D → Res D
  | .int i, .int j => .ok (.int (Builtin.bitAnd i j))
  | _, _ => .stuck
def opOr : D → D → Res D
  | .int i, .int j => .ok (.int (Builtin.bitOr i j))
  | _, _ => .stuck
def opXor : D → D → Res D
  | .int i, .int j => .ok (.int (Builtin.bitXor i j))
  | _, _ => .stuck
def opNeg : D → Res D
  | .int i => .ok (.int (-i))
  | _ => .stuck
def opInv : D → Res D
  | .int i => .ok (.int (Builtin.bitNot i))
  | _ => .stuck
def cmpI (p : Int → Int → Bool) : D → D → Res D
  | .int i, .int j => .ok (.bl (p i j))
  | _, _ => .stuck
abbrev opLt := cmpI fun i j => decide (i < j)
abbrev opLe := cmpI fun i j => decide (i ≤ j)
abbrev opGt := cmpI fun i j => decide (j < i)
abbrev opGe := cmpI fun i j => decide (j ≤ i)
def opEq (a b : D) : Res D := if a.eqOk && b.eqOk then .ok (.bl (D.eqv a b)) else .stuck
def opNe (a b : D) : Res D := if a.eqOk && b.eqOk then .ok (.bl (!D.eqv a b)) else .stuck
def D.flat : D → Bool
  | .non => true
  | .bl _ => true
  | .int _ => true
  | .str _ => true
  | _ => false
def opIn : D → D → Res D
  | x, .lst ys => if x.eqOk && (D.lst ys).eqOk then .ok (.bl (ys.any fun y => D.eqv y x)) else .stuck
  | _, _ => .stuck
def opNotIn : D → D → Res D
  | x, .lst ys => if x.eqOk && (D.lst ys).eqOk then .ok (.bl (!ys.any fun y => D.eqv y x)) else .stuck
  | _, _ => .stuck
def opIsB : D → D → Res D
  | .bl a, .bl b => .ok (.bl (decide (a = b)))
  | _, _ => .stuck
def opIsNotB : D → D → Res D
  | .bl a, .bl b => .ok (.bl (!decide (a = b)))
  | _, _ => .stuck
def D.isNon : D → Bool
  | .non => true
  | _ => false
def opIsNone : D → Res D := fun d => .ok (.bl d.isNon)
def opNotNone : D → Res D := fun d => .ok (.bl (!d.isNon))
def D.truth : D → Res Bool
  | .non => .ok false
  | .bl b => .ok b
  | .int i => .ok (i != 0)
  | .lst xs => .ok (!xs.isEmpty)
  | .tup xs => .ok (!xs.isEmpty)
  | _ => .stuck
/-! ### built-in functions -/
def fAbs : List D → Res D
  | [.int i] => .ok (.int (if i < 0 then -i else i))
  | _ => .stuck
def fInt : List D → Res D
  | [.int i] => .ok (.int i)
  | [.bl b] => .ok (.int (if b then 1 else 0))
  | _ => .stuck
def fLen : List D → Res D
  | [.lst xs] => .ok (.int xs.length)
  | [.tup xs] => .ok (.int xs.length)
  | _ => .stuck
def fMax2 : List D → Res D
  | [.int i, .int j] => .ok (.int (if j > i then j else i))
  | _ => .stuck
def fMin2 : List D → Res D
  | [.int i, .int j] => .ok (.int (if j < i then j else i))
  | _ => .stuck
def ints? : List D → Option (List Int)
  | [] => some []
  | .int i :: r => (ints? r).map (i :: ·)
  | _ :: _ => none
def maxL : List Int → Int
  | [] => 0
  | [a] => a
  | a :: b :: r => if a < maxL (b :: r) then maxL (b :: r) else a
def minL : List Int → Int
  | [] => 0
  | [a] => a
  | a :: b :: r => if minL (b :: r) < a then minL (b :: r) else a
def fMax : List D → Res D
  | [.lst xs] => (match ints? xs with | some (a :: r) => .ok (.int (maxL (a :: r))) | _ => .stuck)
  | _ => .stuck
def fMin : List D → Res D
  | [.lst xs] => (match ints? xs with | some (a :: r) => .ok (.int (minL (a :: r))) | _ => .stuck)
  | _ => .stuck
def fSum : List D → Res D
  | [.lst xs] => (match ints? xs with | some ns => .ok (.int ns.sum) | _ => .stuck)
  | _ => .stuck
def fList : List D → Res D
  | [.lst xs] => .ok (.lst xs)
  | [.tup xs] => .ok (.lst xs)
  | _ => .stuck
def fTuple : List D → Res D
  | [.lst xs] => .ok (.tup xs)
  | [.tup xs] => .ok (.tup xs)
  | _ => .stuck
/-- isinstance(x, T) of a built-in type -/
def isTy (T : String) : D → Option Bool
  | .non => if T = "int" ∨ T = "bool" ∨ T = "str" ∨ T = "list" ∨ T = "tuple" then some false else none
  | .bl _ => if T = "int" ∨ T = "bool" then some true else if T = "str" ∨ T = "list" ∨ T = "tuple" then some false else none
  | .int _ => if T = "int" then some true else if T = "bool" ∨ T = "str" ∨ T = "list" ∨ T = "tuple" then some false else none
  | .str _ => if T = "str" then some true else if T = "bool" ∨ T = "int" ∨ T = "list" ∨ T = "tuple" then some false else none
  | .lst _ => if T = "list" then some true else if T = "bool" ∨ T = "int" ∨ T = "str" ∨ T = "tuple" then some false else none
  | .tup _ => if T = "tuple" then some true else if T = "bool" ∨ T = "int" ∨ T = "str" ∨ T = "list" then some false else none
  | _ => none
def opIsTy (T : String) (d : D) : Res D := match isTy T d with
  | some b => .ok (.bl b)
  | none => .stuck
/-! ### items and slices -/
def ixOf (n : Nat) (i : Int) : Option Nat := if 0 ≤ i then (if i < n then some i.toNat else none) else if -(n : Int) ≤ i then some (i + n).toNat else none
def atD (xs : List D) (i : Int) : Option D := (ixOf xs.length i).bind fun j => xs[j]?
def opIx : D → D → Res D
  | .lst xs, .int i => (match atD xs i with | some d => .ok d | none => .stuck)
  | .tup xs, .int i => (match atD xs i with | some d => .ok d | none => .stuck)
  | _, _ => .stuck
def slIx (n d : Nat) : Option Int → Nat
  | none => d
  | some v => if v < 0 then (v + n).toNat else min v.toNat n
def cutD (xs : List D) (lo hi : Option Int) : List D := (xs.drop (slIx xs.length 0 lo)).take (slIx xs.length xs.length hi - slIx xs.length 0 lo)
/-! ### expressions -/
def dVar (i : Nat) : M D := fun η => match η[i]? with
  | some (some d) => .ok d
  | _ => .stuck
def dLit (d : D) : M D := fun _ => .ok d
def dOp1 (f : D → Res D) (a : M D) : M D := fun η => (a η).bind f
def dOp2 (f : D → D → Res D) (a b : M D) : M D := fun η => (a η).bind fun x => (b η).bind fun y => f x y
def toB : D → Res Bool
  | .bl b => .ok b
  | _ => .stuck
def dChain (f g : D → D → Res D) (a b c : M D) : M D := fun η => (a η).bind fun x => (b η).bind fun y => (f x y).bind fun r => (toB r).bind fun k => if k then (c η).bind fun z => g y z else .ok (.bl false)
def dAnd (a b : M D) : M D := fun η => (a η).bind fun x => (toB x).bind fun k => if k then b η else .ok (.bl false)
def dOr (a b : M D) : M D := fun η => (a η).bind fun x => (toB x).bind fun k => if k then .ok (.bl true) else b η
def dNot (a : M D) : M D := fun η => (a η).bind fun x => (toB x).bind fun k => .ok (.bl (!k))
def qB (a : M D) : M Bool := fun η => (a η).bind toB
def qTru (a : M D) : M Bool := fun η => (a η).bind D.truth
def qAnd (a b : M Bool) : M Bool := fun η => (a η).bind fun k => if k then b η else .ok false
def qOr (a b : M Bool) : M Bool := fun η => (a η).bind fun k => if k then .ok true else b η
def qNot (a : M Bool) : M Bool := fun η => (a η).bind fun k => .ok (!k)
def dIf (q : M Bool) (a b : M D) : M D := fun η => (q η).bind fun k => if k then a η else b η
def aNil : M (List D) := fun _ => .ok []
def aCons (a : M D) (r : M (List D)) : M (List D) := fun η => (a η).bind fun x => (r η).bind fun xs => .ok (x :: xs)
def dTup (a : M (List D)) : M D := fun η => (a η).bind fun xs => if xs.length ≤ line then .ok (.tup xs) else .stuck
def dLst (a : M (List D)) : M D := fun η => (a η).bind fun xs => if xs.length ≤ line then .ok (.lst xs) else .stuck
def dCall (f : List D → Res D) (a : M (List D)) : M D := fun η => (a η).bind f
abbrev oNone : M (Option Int) := fun _ => .ok none
def toI : D → Res (Option Int)
  | .int i => .ok (some i)
  | _ => .stuck
def oSome (a : M D) : M (Option Int) := fun η => (a η).bind toI
def opSl (x : D) (lo hi : Option Int) : Res D := match x with
  | .lst xs => .ok (.lst (cutD xs lo hi))
  | .tup xs => .ok (.tup (cutD xs lo hi))
  | _ => .stuck
def dSl (a : M D) (lo hi : M (Option Int)) : M D := fun η => (a η).bind fun x => (lo η).bind fun l => (hi η).bind fun h => opSl x l h
/-! ### what a for walks, what it binds -/
def items : D → Res (List D)
  | .lst xs => .ok xs
  | .tup xs => .ok xs
  | _ => .stuck
def iSeq (a : M D) : M (List D) := fun η => (a η).bind items
def rangeD (lo : Int) (n : Nat) : List D := (List.range n).map fun (k : Nat) => D.int (lo + (k : Int))
def lim62 : Int := 4611686018427387904
def iRange1 (a : M D) : M (List D) := fun η => (a η).bind fun x => match x with
  | .int j => if -lim62 ≤ j ∧ j < lim62 then .ok (rangeD 0 j.toNat) else .stuck
  | _ => .stuck
def iRange2 (a b : M D) : M (List D) := fun η => (a η).bind fun x => (b η).bind fun y => match x, y with
  | .int i, .int j => if (-lim62 ≤ i ∧ i < lim62) ∧ (-lim62 ≤ j ∧ j < lim62) then .ok (rangeD i (j - i).toNat) else .stuck
  | _, _ => .stuck
def enumD : Nat → List D → List D
  | _, [] => []
  | k, x :: xs => .tup [.int (k : Int), x] :: enumD (k + 1) xs
def zipD : List D → List D → List D
  | x :: xs, y :: ys => .tup [x, y] :: zipD xs ys
  | _, _ => []
def lstOf : D → Res (List D)
  | .lst xs => .ok xs
  | _ => .stuck
def iEnum (a : M D) : M (List D) := fun η => (a η).bind fun x => (lstOf x).bind fun xs => .ok (enumD 0 xs)
def iZip (a b : M D) : M (List D) := fun η => (a η).bind fun x => (b η).bind fun y => (lstOf x).bind fun xs => (lstOf y).bind fun ys => .ok (zipD xs ys)
def iRev (a : M D) : M (List D) := fun η => (a η).bind fun x => (lstOf x).bind fun xs => .ok xs.reverse
abbrev Bd := D → Env → Option Env
def bName (i : Nat) : Bd := fun d η => if i < η.length then some (η.set i (some d)) else none
def bNil : List D → Env → Option Env := fun ds η => match ds with | [] => some η | _ => none
def bCons (b : Bd) (r : List D → Env → Option Env) : List D → Env → Option Env := fun ds η => match ds with | d :: ds => (b d η).bind (r ds) | [] => none
def bTup (r : List D → Env → Option Env) : Bd := fun d η => match d with | .tup ds => r ds η | _ => none
/-- the slots of a comprehension's own names forgotten -/
def wipeE (η : Env) : List Nat → Env
  | [] => η
  | v :: vs => (wipeE η vs).set v none
def compGo (b : Bd) (q : M Bool) (e : M D) (η : Env) : List D → List D → Res (List D)
  | [], acc => .ok acc
  | x :: xs, acc => (match b x η with
    | some η1 => (match q η1 with
      | .ok true => (match e η1 with
        | .ok d => if acc.length < line then compGo b q e η xs (acc ++ [d]) else .stuck
        | _ => .stuck)
      | .ok false => compGo b q e η xs acc
      | _ => .stuck)
    | none => .stuck)
def dComp (it : M (List D)) (b : Bd) (q : M Bool) (e : M D) (own : List Nat) : M D := fun η => (it η).bind fun xs => (compGo b q e (wipeE η own) xs []).bind fun ds => .ok (.lst ds)
abbrev qYes : M Bool := fun _ => .ok true
/-! ### statements -/
def onRes {α : Type} (r : Res α) (η : Env) (k : α → Fl) : Fl := match r with
  | .ok a => k a
  | .exc e => .ex e η
  | .stuck => .stuck
def sNext : Env → Fl := fun η => .nx η
def sBreak : Env → Fl := fun η => .bk η
def sCont : Env → Fl := fun η => .ct η
def sSeq (a b : Env → Fl) : Env → Fl := fun η => match a η with
  | .nx η' => b η'
  | r => r
def sExpr (a : M D) : Env → Fl := fun η => onRes (a η) η fun _ => .nx η
def sAsg (a : M D) (b : Bd) : Env → Fl := fun η => onRes (a η) η fun d => match b d η with | some η' => .nx η' | none => .stuck
def sAug (i : Nat) (f : D → D → Res D) (a : M D) : Env → Fl := fun η => onRes (dOp2 f (dVar i) a η) η fun d => if i < η.length then .nx (η.set i (some d)) else .stuck
/-- x[i] = e, x the list in the slot k -/
def setD (xs : List D) (i : Int) (d : D) : Option (List D) := (ixOf xs.length i).map fun j => xs.set j d
def lstAt (η : Env) (k : Nat) : Res (List D) := match η[k]? with
  | some (some (.lst xs)) => .ok xs
  | _ => .stuck
def sSet (k : Nat) (i : M D) (a : M D) : Env → Fl := fun η => onRes (a η) η fun d => onRes (lstAt η k) η fun xs => onRes (i η) η fun x => match x with
  | .int z => (match setD xs z d with | some ys => .nx (η.set k (some (.lst ys))) | none => .stuck)
  | _ => .stuck
def sApp (k : Nat) (a : M D) : Env → Fl := fun η => onRes (lstAt η k) η fun xs => onRes (a η) η fun d => if xs.length < line then .nx (η.set k (some (.lst (xs ++ [d])))) else .stuck
def sRet (a : M D) : Env → Fl := fun η => onRes (a η) η fun d => .rt d
def sRetN : Env → Fl := fun _ => .rt .non
def sIf (q : M Bool) (a b : Env → Fl) : Env → Fl := fun η => onRes (q η) η fun k => if k then a η else b η
def sRaise (e : Er) : Env → Fl := fun η => .ex e η
def forGo (b : Bd) (body : Env → Fl) : List D → Env → Fl
  | [], η => .nx η
  | x :: xs, η => (match b x η with
    | some η1 => (match body η1 with
      | .nx η' => forGo b body xs η'
      | .ct η' => forGo b body xs η'
      | .bk η' => .nx η'
      | r => r)
    | none => .stuck)
def sFor (it : M (List D)) (b : Bd) (body : Env → Fl) : Env → Fl := fun η => onRes (it η) η fun xs => forGo b body xs η
def whileGo (q : M Bool) (body : Env → Fl) : Nat → Env → Fl
  | 0, _ => .stuck
  | n + 1, η => onRes (q η) η fun k => if k then (match body η with
    | .nx η' => whileGo q body n η'
    | .ct η' => whileGo q body n η'
    | .bk η' => .nx η'
    | r => r) else .nx η
open Classical in
noncomputable def sWhile (q : M Bool) (body : Env → Fl) : Env → Fl := fun η => if h : ∃ n, whileGo q body n η ≠ .stuck then whileGo q body (Classical.choose h) η else .stuck
/-- try: body / except c as i: h (the name's slot goes behind the suite) -/
def goneFl (i : Nat) : Fl → Fl
  | .nx η => .nx (η.set i none)
  | .bk η => .bk (η.set i none)
  | .ct η => .ct (η.set i none)
  | .ex _ _ => .stuck
  | r => r
def sTryAs (body : Env → Fl) (c : Er) (i : Nat) (h : Er → Env → Fl) : Env → Fl := fun η => match body η with
  | .ex e η' => if e.own = true ∧ i < η'.length then (if e.sub c then goneFl i (h e (η'.set i none)) else .ex e η') else .stuck
  | r => r
def noEx : Fl → Fl
  | .ex _ _ => .stuck
  | r => r
def sTryOnly (body : Env → Fl) (c : Er) (h : Env → Fl) : Env → Fl := fun η => match body η with
  | .ex e η' => if e.own then (if e.sub c then noEx (h η') else .ex e η') else .stuck
  | r => r
/-- isinstance(e, c), e the error held -/
def dIsEr (e c : Er) : M D := fun _ => if e.own && c.own then .ok (.bl (e.sub c)) else .stuck
/-! ### defs -/
def mkFn (n m : Nat) (body : Env → Fl) : List D → Res D := fun ds => if ds.length = n then (match body (ds.map some ++ List.replicate (m - n) none) with
  | .rt d => .ok d
  | .nx _ => .ok .non
  | .ex e _ => .exc e
  | _ => .stuck) else .stuck
end VL
/-! VLRel: a tree is held by the heap; the slots of a frame, owned or shared. -/
namespace VL
open PySem PySem.Spec L2
structure Sta where
  K : PySem.W.Frag
  mg : Str → Option Value
  /-- in an except suite: the slot of the error's name, the error, its class -/
  hot : Option (Nat × Addr × Er)
mutual
def Rep (S : Sta) (H : Hp) : D → V → Prop
  | .non, v => v = .non
  | .bl b, v => v = .bl b
  | .int i, v => v = .int i
  | .str x, v => v = .str x
  | .byt b, v => v = .byt b
  | .lst ds, v => ∃ (a : Addr) (vs : List V), v = .ref a ∧ Rd H a (.lst vs) ∧ Reps S H ds vs
  | .tup ds, v => ∃ (a : Addr) (vs : List V), v = .ref a ∧ SqT S.K H a vs ∧ Reps S H ds vs
  | .ins c ds, v => ∃ (a C dx : Addr) (fs : List (Str × V)), v = .ref a ∧ S.mg (clsTab c).1 = some (.ref C) ∧ H a = some (.ins C dx fs) ∧ fs.map (·.1) = (clsTab c).2 ∧ Reps S H ds (fs.map (·.2))
def Reps (S : Sta) (H : Hp) : List D → List V → Prop
  | [], vs => vs = []
  | d :: ds, vs => ∃ (v : V) (ws : List V), vs = v :: ws ∧ Rep S H d v ∧ Reps S H ds ws
end
section
variable {S : Sta} {H H' : Hp}
mutual
theorem Rep.same (e : Same H H') : ∀ (d : D) (v : V), Rep S H d v → Rep S H' d v
  | .non, _, h => h
  | .bl _, _, h => h
  | .int _, _, h => h
  | .str _, _, h => h
  | .byt _, _, h => h
  | .lst ds, v, h => by
    unfold Rep at h ⊢
    obtain ⟨a, vs, h1, h2, h3⟩ := h
    refine ⟨a, vs, h1, ?_, Reps.same e ds vs h3⟩
    rcases h2 with h | ⟨o, h⟩
    · exact .inl (e _ _ h)
    · exact .inr ⟨o, e _ _ h⟩
  | .tup ds, v, h => by
    unfold Rep at h ⊢
    obtain ⟨a, vs, h1, h2, h3⟩ := h
    refine ⟨a, vs, h1, ?_, Reps.same e ds vs h3⟩
    rcases h2 with (h | ⟨o, h⟩) | h
    · exact .inl (.inl (e _ _ h))
    · exact .inl (.inr ⟨o, e _ _ h⟩)
    · exact .inr h
  | .ins c ds, v, h => by
    unfold Rep at h ⊢
    obtain ⟨a, C, dx, fs, h1, h2, h3, h4, h5⟩ := h
    exact ⟨a, C, dx, fs, h1, h2, e _ _ h3, h4, Reps.same e ds _ h5⟩
theorem Reps.same (e : Same H H') : ∀ (ds : List D) (vs : List V), Reps S H ds vs → Reps S H' ds vs
  | [], vs, h => h
  | d :: ds, vs, h => by
    unfold Reps at h ⊢
    obtain ⟨v, ws, h1, h2, h3⟩ := h
    exact ⟨v, ws, h1, Rep.same e d v h2, Reps.same e ds ws h3⟩
end
theorem Reps.nil_iff {vs : List V} : Reps S H [] vs ↔ vs = [] := by unfold Reps; exact Iff.rfl
theorem Reps.cons_iff {d : D} {ds : List D} {vs : List V} : Reps S H (d :: ds) vs ↔ ∃ v ws, vs = v :: ws ∧ Rep S H d v ∧ Reps S H ds ws := by
  constructor
  · intro h; unfold Reps at h; exact h
  · intro h; unfold Reps; exact h
theorem Reps.length : ∀ {ds : List D} {vs : List V}, Reps S H ds vs → vs.length = ds.length
  | [], vs, h => by rw [Reps.nil_iff.mp h] <;> rfl
  | d :: ds, vs, h => by
    obtain ⟨v, ws, rfl, _, h3⟩ := Reps.cons_iff.mp h
    rw [List.length_cons, List.length_cons, Reps.length h3]
theorem Reps.get : ∀ {ds : List D} {vs : List V} {i : Nat} {d : D}, Reps S H ds vs → ds[i]? = some d → ∃ v, vs[i]? = some v ∧ Rep S H d v
  | [], _, _, _, _, e => by simp at e
  | d :: ds, vs, 0, d', h, e => by
    obtain ⟨v, ws, rfl, h2, _⟩ := Reps.cons_iff.mp h
    have e' : d = d' := by simpa using e
    subst e'
    exact ⟨v, rfl, h2⟩
  | d :: ds, vs, i + 1, d', h, e => by
    obtain ⟨v, ws, rfl, _, h3⟩ := Reps.cons_iff.mp h
    obtain ⟨v', q1, q2⟩ := Reps.get (i := i) h3 (by simpa using e)
    exact ⟨v', by simpa using q1, q2⟩
theorem Reps.set : ∀ {ds : List D} {vs : List V} (i : Nat) {d : D} {v : V}, Reps S H ds vs → Rep S H d v → Reps S H (ds.set i d) (vs.set i v)
  | [], vs, i, d, v, h, _ => by rw [Reps.nil_iff.mp h]; exact Reps.nil_iff.mpr rfl
  | e :: ds, vs, 0, d, v, h, r => by
    obtain ⟨v', ws, rfl, _, h3⟩ := Reps.cons_iff.mp h
    exact Reps.cons_iff.mpr ⟨v, ws, rfl, r, h3⟩
  | e :: ds, vs, i + 1, d, v, h, r => by
    obtain ⟨v', ws, rfl, h2, h3⟩ := Reps.cons_iff.mp h
    exact Reps.cons_iff.mpr ⟨v', ws.set i v, rfl, h2, Reps.set i h3 r⟩
theorem Reps.append : ∀ {ds es : List D} {vs ws : List V}, Reps S H ds vs → Reps S H es ws → Reps S H (ds ++ es) (vs ++ ws)
  | [], es, vs, ws, h, r => by rw [Reps.nil_iff.mp h]; exact r
  | d :: ds, es, vs, ws, h, r => by
    obtain ⟨v', us, rfl, h2, h3⟩ := Reps.cons_iff.mp h
    exact Reps.cons_iff.mpr ⟨v', us ++ ws, rfl, h2, Reps.append h3 r⟩
theorem Reps.one {d : D} {v : V} (h : Rep S H d v) : Reps S H [d] [v] := Reps.cons_iff.mpr ⟨v, [], rfl, h, Reps.nil_iff.mpr rfl⟩
theorem Reps.drop : ∀ {ds : List D} {vs : List V} (n : Nat), Reps S H ds vs → Reps S H (ds.drop n) (vs.drop n)
  | _, _, 0, h => h
  | [], vs, n + 1, h => by rw [Reps.nil_iff.mp h]; exact Reps.nil_iff.mpr rfl
  | d :: ds, vs, n + 1, h => by
    obtain ⟨v', us, rfl, h2, h3⟩ := Reps.cons_iff.mp h
    exact Reps.drop n h3
theorem Reps.take : ∀ {ds : List D} {vs : List V} (n : Nat), Reps S H ds vs → Reps S H (ds.take n) (vs.take n)
  | _, _, 0, h => Reps.nil_iff.mpr rfl
  | [], vs, n + 1, h => by rw [Reps.nil_iff.mp h]; exact Reps.nil_iff.mpr rfl
  | d :: ds, vs, n + 1, h => by
    obtain ⟨v', us, rfl, h2, h3⟩ := Reps.cons_iff.mp h
    exact Reps.cons_iff.mpr ⟨v', us.take n, rfl, h2, Reps.take n h3⟩
theorem Reps.reverse : ∀ {ds : List D} {vs : List V}, Reps S H ds vs → Reps S H ds.reverse vs.reverse
  | [], vs, h => by rw [Reps.nil_iff.mp h]; exact Reps.nil_iff.mpr rfl
  | d :: ds, vs, h => by
    obtain ⟨v', us, rfl, h2, h3⟩ := Reps.cons_iff.mp h
    rw [List.reverse_cons, List.reverse_cons]
    exact Reps.append (Reps.reverse h3) (Reps.one h2)
theorem Reps.rep {ds : List D} {vs : List V} (h : Reps S H ds vs) : ∀ k : Nat, Reps S H (List.replicate k ds).flatten (List.replicate k vs).flatten
  | 0 => Reps.nil_iff.mpr rfl
  | k + 1 => by
    rw [List.replicate_succ, List.replicate_succ, List.flatten_cons, List.flatten_cons]
    exact Reps.append h (Reps.rep h k)
theorem Reps.ints : ∀ {ds : List D} {vs : List V} {ns : List Int}, Reps S H ds vs → ints? ds = some ns → vs = ns.map V.int
  | [], vs, ns, h, e => by
    rw [Reps.nil_iff.mp h]
    have e' : ([] : List Int) = ns := Option.some.inj e
    rw [← e']; rfl
  | .int i :: ds, vs, ns, h, e => by
    obtain ⟨v', us, rfl, h2, h3⟩ := Reps.cons_iff.mp h
    unfold ints? at e
    obtain ⟨ms, e1, e2⟩ := Option.map_eq_some_iff.mp e
    unfold Rep at h2
    rw [h2, Reps.ints h3 e1, ← e2]; rfl
  | .non :: _, _, _, _, e => by simp [ints?] at e
  | .bl _ :: _, _, _, _, e => by simp [ints?] at e
  | .str _ :: _, _, _, _, e => by simp [ints?] at e
  | .byt _ :: _, _, _, _, e => by simp [ints?] at e
  | .lst _ :: _, _, _, _, e => by simp [ints?] at e
  | .tup _ :: _, _, _, _, e => by simp [ints?] at e
  | .ins _ _ :: _, _, _, _, e => by simp [ints?] at e
theorem Reps.of_ints : ∀ ns : List Int, Reps S H (ns.map D.int) (ns.map V.int)
  | [] => Reps.nil_iff.mpr rfl
  | n :: ns => Reps.cons_iff.mpr ⟨.int n, ns.map V.int, rfl, by unfold Rep; rfl, Reps.of_ints ns⟩
mutual
theorem Rep.dp : ∀ (d : D) (v : V), d.plain = true → Rep S H d v → Dp S.K H v d.toPD
  | .non, v, _, h => by unfold Rep at h; rw [h]; exact .non
  | .bl b, v, _, h => by unfold Rep at h; rw [h]; exact .bl b
  | .int i, v, _, h => by unfold Rep at h; rw [h]; exact .int i
  | .str x, v, _, h => by unfold Rep at h; rw [h]; exact .str x
  | .lst ds, v, p, h => by
    unfold Rep at h
    obtain ⟨a, vs, rfl, h2, h3⟩ := h
    unfold D.plain at p
    unfold D.toPD
    exact .lst (.inl h2) (Reps.dps ds vs p h3)
  | .tup ds, v, p, h => by
    unfold Rep at h
    obtain ⟨a, vs, rfl, h2, h3⟩ := h
    unfold D.plain at p
    unfold D.toPD
    exact .tup h2 (Reps.dps ds vs p h3)
  | .byt _, _, p, _ => by simp [D.plain] at p
  | .ins _ _, _, p, _ => by simp [D.plain] at p
theorem Reps.dps : ∀ (ds : List D) (vs : List V), D.plains ds = true → Reps S H ds vs → DpAll S.K H vs (D.toPDs ds)
  | [], vs, _, h => by rw [Reps.nil_iff.mp h]; unfold D.toPDs; exact .nil
  | d :: ds, vs, p, h => by
    obtain ⟨v', us, rfl, h2, h3⟩ := Reps.cons_iff.mp h
    unfold D.plains at p
    rw [Bool.and_eq_true] at p
    unfold D.toPDs
    exact .cons (Rep.dp d v' p.1 h2) (Reps.dps ds us p.2 h3)
end
end

/-! ### owned -/
mutual
/-- depth n of d is this frame's own: lists at F, not to be seen in the shared part Hs -/
def Own (S : Sta) (H Hs : Hp) : D → Nat → V → List Addr → Prop
  | .lst ds, n, v, F => (match n with
    | 0 => F = [] ∧ Rep S Hs (.lst ds) v
    | n + 1 => ∃ (a : Addr) (vs : List V) (G : List Addr), v = .ref a ∧ F = a :: G ∧ H a = some (.lst vs) ∧ Owns S H Hs ds n vs G)
  | .non, _, v, F => F = [] ∧ Rep S Hs .non v
  | .bl b, _, v, F => F = [] ∧ Rep S Hs (.bl b) v
  | .int i, _, v, F => F = [] ∧ Rep S Hs (.int i) v
  | .str x, _, v, F => F = [] ∧ Rep S Hs (.str x) v
  | .byt b, _, v, F => F = [] ∧ Rep S Hs (.byt b) v
  | .tup ds, _, v, F => F = [] ∧ Rep S Hs (.tup ds) v
  | .ins c ds, _, v, F => F = [] ∧ Rep S Hs (.ins c ds) v
def Owns (S : Sta) (H Hs : Hp) : List D → Nat → List V → List Addr → Prop
  | [], _, vs, F => vs = [] ∧ F = []
  | d :: ds, n, vs, F => ∃ (v : V) (ws : List V) (F1 F2 : List Addr), vs = v :: ws ∧ F = F1 ++ F2 ∧ Own S H Hs d n v F1 ∧ Owns S H Hs ds n ws F2
end
section
variable {S : Sta} {H H' Hs Hs' : Hp}
theorem Own.zero {d : D} {v : V} {F : List Addr} : Own S H Hs d 0 v F ↔ F = [] ∧ Rep S Hs d v := by
  cases d <;> (unfold Own; exact Iff.rfl)
theorem Own.succ {ds : List D} {n : Nat} {v : V} {F : List Addr} : Own S H Hs (.lst ds) (n + 1) v F ↔ ∃ (a : Addr) (vs : List V) (G : List Addr), v = .ref a ∧ F = a :: G ∧ H a = some (.lst vs) ∧ Owns S H Hs ds n vs G := by
  unfold Own; exact Iff.rfl
def D.isLst : D → Bool
  | .lst _ => true
  | _ => false
theorem Own.other {d : D} {n : Nat} {v : V} {F : List Addr} (h : d.isLst = false) : Own S H Hs d n v F ↔ F = [] ∧ Rep S Hs d v := by
  cases d <;> first | (unfold Own; exact Iff.rfl) | (simp [D.isLst] at h)
theorem Owns.nil {n : Nat} {vs : List V} {F : List Addr} : Owns S H Hs [] n vs F ↔ vs = [] ∧ F = [] := by unfold Owns; exact Iff.rfl
theorem Owns.cons {d : D} {ds : List D} {n : Nat} {vs : List V} {F : List Addr} : Owns S H Hs (d :: ds) n vs F ↔ ∃ (v : V) (ws : List V) (F1 F2 : List Addr), vs = v :: ws ∧ F = F1 ++ F2 ∧ Own S H Hs d n v F1 ∧ Owns S H Hs ds n ws F2 := by first | exact Iff.rfl | rw [Owns.eq_2]
/-- the heap changes outside of F, the shared part grows -/
theorem Own.move (e : Same Hs Hs') : ∀ (d : D) (n : Nat) (v : V) (F : List Addr), (∀ a ∈ F, H' a = H a) → Own S H Hs d n v F → Own S H' Hs' d n v F := by
  intro d
  refine D.rec (motive_1 := fun d => ∀ (n : Nat) (v : V) (F : List Addr), (∀ a ∈ F, H' a = H a) → Own S H Hs d n v F → Own S H' Hs' d n v F)
    (motive_2 := fun ds => ∀ (n : Nat) (vs : List V) (F : List Addr), (∀ a ∈ F, H' a = H a) → Owns S H Hs ds n vs F → Owns S H' Hs' ds n vs F) ?_ ?_ ?_ ?_ ?_ ?_ ?_ ?_ ?_ ?_ d
  · intro n v F _ h; exact (Own.other rfl).mpr ⟨((Own.other rfl).mp h).1, ((Own.other rfl).mp h).2.same e⟩
  · intro b n v F _ h; exact (Own.other rfl).mpr ⟨((Own.other rfl).mp h).1, ((Own.other rfl).mp h).2.same e⟩
  · intro b n v F _ h; exact (Own.other rfl).mpr ⟨((Own.other rfl).mp h).1, ((Own.other rfl).mp h).2.same e⟩
  · intro b n v F _ h; exact (Own.other rfl).mpr ⟨((Own.other rfl).mp h).1, ((Own.other rfl).mp h).2.same e⟩
  · intro b n v F _ h; exact (Own.other rfl).mpr ⟨((Own.other rfl).mp h).1, ((Own.other rfl).mp h).2.same e⟩
  · intro ds ih n v F k h
    cases n with
    | zero => exact Own.zero.mpr ⟨(Own.zero.mp h).1, (Own.zero.mp h).2.same e⟩
    | succ n =>
      obtain ⟨a, vs, G, rfl, rfl, h1, h2⟩ := Own.succ.mp h
      exact Own.succ.mpr ⟨a, vs, G, rfl, rfl, (k a List.mem_cons_self).trans h1, ih n vs G (fun b hb => k b (List.mem_cons_of_mem _ hb)) h2⟩
  · intro ds _ n v F _ h; exact (Own.other rfl).mpr ⟨((Own.other rfl).mp h).1, ((Own.other rfl).mp h).2.same e⟩
  · intro c ds _ n v F _ h; exact (Own.other rfl).mpr ⟨((Own.other rfl).mp h).1, ((Own.other rfl).mp h).2.same e⟩
  · intro n vs F _ h; exact Owns.nil.mpr (Owns.nil.mp h)
  · intro d ds ih1 ih2 n vs F k h
    obtain ⟨v, ws, F1, F2, rfl, rfl, h1, h2⟩ := Owns.cons.mp h
    exact Owns.cons.mpr ⟨v, ws, F1, F2, rfl, rfl, ih1 n v F1 (fun a ha => k a (List.mem_append_left _ ha)) h1, ih2 n ws F2 (fun a ha => k a (List.mem_append_right _ ha)) h2⟩
/-- the owned parts become shared -/
theorem Own.froz (e : Same Hs Hs') : ∀ (d : D) (n : Nat) (v : V) (F : List Addr), (∀ a ∈ F, Hs' a = H a) → Own S H Hs d n v F → Rep S Hs' d v := by
  intro d
  refine D.rec (motive_1 := fun d => ∀ (n : Nat) (v : V) (F : List Addr), (∀ a ∈ F, Hs' a = H a) → Own S H Hs d n v F → Rep S Hs' d v)
    (motive_2 := fun ds => ∀ (n : Nat) (vs : List V) (F : List Addr), (∀ a ∈ F, Hs' a = H a) → Owns S H Hs ds n vs F → Reps S Hs' ds vs) ?_ ?_ ?_ ?_ ?_ ?_ ?_ ?_ ?_ ?_ d
  · intro n v F _ h; exact ((Own.other rfl).mp h).2.same e
  · intro b n v F _ h; exact ((Own.other rfl).mp h).2.same e
  · intro b n v F _ h; exact ((Own.other rfl).mp h).2.same e
  · intro b n v F _ h; exact ((Own.other rfl).mp h).2.same e
  · intro b n v F _ h; exact ((Own.other rfl).mp h).2.same e
  · intro ds ih n v F k h
    cases n with
    | zero => exact (Own.zero.mp h).2.same e
    | succ n =>
      obtain ⟨a, vs, G, rfl, rfl, h1, h2⟩ := Own.succ.mp h
      unfold Rep
      exact ⟨a, vs, rfl, Rd.of ((k a List.mem_cons_self).trans h1), ih n vs G (fun b hb => k b (List.mem_cons_of_mem _ hb)) h2⟩
  · intro ds _ n v F _ h; exact ((Own.other rfl).mp h).2.same e
  · intro c ds _ n v F _ h; exact ((Own.other rfl).mp h).2.same e
  · intro n vs F _ h; exact Reps.nil_iff.mpr (Owns.nil.mp h).1
  · intro d ds ih1 ih2 n vs F k h
    obtain ⟨v, ws, F1, F2, rfl, rfl, h1, h2⟩ := Owns.cons.mp h
    exact Reps.cons_iff.mpr ⟨v, ws, rfl, ih1 n v F1 (fun a ha => k a (List.mem_append_left _ ha)) h1, ih2 n ws F2 (fun a ha => k a (List.mem_append_right _ ha)) h2⟩
/-- what is owned stands in the heap -/
theorem Own.there : ∀ (d : D) (n : Nat) (v : V) (F : List Addr), Own S H Hs d n v F → ∀ a ∈ F, ∃ o, H a = some o := by
  intro d
  refine D.rec (motive_1 := fun d => ∀ (n : Nat) (v : V) (F : List Addr), Own S H Hs d n v F → ∀ a ∈ F, ∃ o, H a = some o)
    (motive_2 := fun ds => ∀ (n : Nat) (vs : List V) (F : List Addr), Owns S H Hs ds n vs F → ∀ a ∈ F, ∃ o, H a = some o) ?_ ?_ ?_ ?_ ?_ ?_ ?_ ?_ ?_ ?_ d
  · intro n v F h a ha; rw [((Own.other rfl).mp h).1] at ha; cases ha
  · intro b n v F h a ha; rw [((Own.other rfl).mp h).1] at ha; cases ha
  · intro b n v F h a ha; rw [((Own.other rfl).mp h).1] at ha; cases ha
  · intro b n v F h a ha; rw [((Own.other rfl).mp h).1] at ha; cases ha
  · intro b n v F h a ha; rw [((Own.other rfl).mp h).1] at ha; cases ha
  · intro ds ih n v F h a ha
    cases n with
    | zero => rw [(Own.zero.mp h).1] at ha; cases ha
    | succ n =>
      obtain ⟨b, vs, G, rfl, rfl, h1, h2⟩ := Own.succ.mp h
      rcases List.mem_cons.mp ha with e | ha
      · rw [e]; exact ⟨_, h1⟩
      · exact ih n vs G h2 a ha
  · intro ds _ n v F h a ha; rw [((Own.other rfl).mp h).1] at ha; cases ha
  · intro c ds _ n v F h a ha; rw [((Own.other rfl).mp h).1] at ha; cases ha
  · intro n vs F h a ha; rw [(Owns.nil.mp h).2] at ha; cases ha
  · intro d ds ih1 ih2 n vs F h a ha
    obtain ⟨v, ws, F1, F2, rfl, rfl, h1, h2⟩ := Owns.cons.mp h
    rcases List.mem_append.mp ha with ha | ha
    · exact ih1 n v F1 h1 a ha
    · exact ih2 n ws F2 h2 a ha
theorem Owns.of_reps : ∀ {ds : List D} {vs : List V}, Reps S Hs ds vs → Owns S H Hs ds 0 vs []
  | [], vs, h => Owns.nil.mpr ⟨Reps.nil_iff.mp h, rfl⟩
  | d :: ds, vs, h => by
    obtain ⟨v, ws, rfl, h1, h2⟩ := Reps.cons_iff.mp h
    exact Owns.cons.mpr ⟨v, ws, [], [], rfl, rfl, Own.zero.mpr ⟨rfl, h1⟩, Owns.of_reps h2⟩
theorem Owns.reps : ∀ {ds : List D} {vs : List V} {F : List Addr}, Owns S H Hs ds 0 vs F → F = [] ∧ Reps S Hs ds vs
  | [], vs, F, h => ⟨(Owns.nil.mp h).2, Reps.nil_iff.mpr (Owns.nil.mp h).1⟩
  | d :: ds, vs, F, h => by
    obtain ⟨v, ws, F1, F2, rfl, rfl, h1, h2⟩ := Owns.cons.mp h
    obtain ⟨e2, r2⟩ := Owns.reps h2
    obtain ⟨e1, r1⟩ := Own.zero.mp h1
    subst e1 e2
    exact ⟨rfl, Reps.cons_iff.mpr ⟨v, ws, rfl, r1, r2⟩⟩
theorem Owns.length : ∀ {ds : List D} {n : Nat} {vs : List V} {F : List Addr}, Owns S H Hs ds n vs F → vs.length = ds.length
  | [], n, vs, F, h => by rw [(Owns.nil.mp h).1] <;> rfl
  | d :: ds, n, vs, F, h => by
    obtain ⟨v, ws, F1, F2, rfl, rfl, h1, h2⟩ := Owns.cons.mp h
    rw [List.length_cons, List.length_cons, Owns.length h2]
theorem Owns.append : ∀ {ds es : List D} {n : Nat} {vs ws : List V} {F G : List Addr}, Owns S H Hs ds n vs F → Owns S H Hs es n ws G → Owns S H Hs (ds ++ es) n (vs ++ ws) (F ++ G)
  | [], es, n, vs, ws, F, G, h, r => by
    obtain ⟨rfl, rfl⟩ := Owns.nil.mp h
    exact r
  | d :: ds, es, n, vs, ws, F, G, h, r => by
    obtain ⟨v, us, F1, F2, rfl, rfl, h1, h2⟩ := Owns.cons.mp h
    exact Owns.cons.mpr ⟨v, us ++ ws, F1, F2 ++ G, rfl, List.append_assoc .., h1, Owns.append h2 r⟩
theorem Owns.one {d : D} {n : Nat} {v : V} {F : List Addr} (h : Own S H Hs d n v F) : Owns S H Hs [d] n [v] F := Owns.cons.mpr ⟨v, [], F, [], rfl, (List.append_nil _).symm, h, Owns.nil.mpr ⟨rfl, rfl⟩⟩
end

/-! ### steps -/
/-- an expression has run: all that stood stands, the shared part has grown by new objects, Fr is new -/
structure Step (H Hs H' Hs' : Hp) (Fr : List Addr) : Prop where
  all : Same H H'
  shr : Same Hs Hs'
  sub : Same Hs' H'
  new : ∀ a, Hs a = none → (∃ o, H a = some o) → Hs' a = none
  fr : ∀ a ∈ Fr, H a = none ∧ Hs' a = none
  nd : Fr.Nodup
/-! ### a frame's slots: entered at H0, of which G0 is shared -/
structure EOk (S : Sta) (H0 G0 H Hs : Hp) (Γ : List Nat) (F : Nat → List Addr) (σ : L2.St) (η : Env) : Prop where
  st : Step H0 G0 H Hs []
  len : σ.length = η.length
  slot : ∀ i d, η[i]? = some (some d) → ∃ v, σ[i]? = some (some v) ∧ Own S H Hs d (Γ.getD i 0) v (F i)
  hid : ∀ i a, a ∈ F i → Hs a = none ∧ H0 a = none ∧ ∃ o, H a = some o
  disj : ∀ i j a, a ∈ F i → a ∈ F j → i = j
  nd : ∀ i, (F i).Nodup
  hot : ∀ i a e, S.hot = some (i, a, e) → σ[i]? = some (some (.ref a))
section
variable {S : Sta} {H0 G0 H H1 H2 Hs Hs1 Hs2 : Hp} {Γ : List Nat} {F : Nat → List Addr} {σ : St} {η : Env} {Fr : List Addr}
theorem Step.refl (h : Same Hs H) : Step H Hs H Hs [] := ⟨Same.refl _, Same.refl _, h, fun _ h _ => h, fun _ h => absurd h List.not_mem_nil, List.nodup_nil⟩
theorem Step.trans (a : Step H Hs H1 Hs1 []) (b : Step H1 Hs1 H2 Hs2 Fr) : Step H Hs H2 Hs2 Fr where
  all := a.all.trans b.all
  shr := a.shr.trans b.shr
  sub := b.sub
  new := fun x h1 ⟨o, h2⟩ => b.new x (a.new x h1 ⟨o, h2⟩) ⟨o, a.all x o h2⟩
  fr := fun x hx => ⟨a.all.free (b.fr x hx).1, (b.fr x hx).2⟩
  nd := b.nd
/-- a new shared object -/
theorem Step.newS {p : Addr} {o : HO} (h : Same Hs H) (hp : H p = none) : Step H Hs (upd H p o) (upd Hs p o) [] where
  all := fun b u e => by rw [upd_ne (ne_of_none e hp)]; exact e
  shr := fun b u e => by rw [upd_ne (ne_of_none (h b u e) hp)]; exact e
  sub := fun b u e => by
    by_cases hb : b = p
    · subst hb; rw [upd_same] at e ⊢; exact e
    · rw [upd_ne hb] at e ⊢; exact h b u e
  new := fun a h1 ⟨u, h2⟩ => by rw [upd_ne (ne_of_none h2 hp)]; exact h1
  fr := fun _ h => absurd h List.not_mem_nil
  nd := List.nodup_nil
/-- a new object of one's own -/
theorem Step.newO {p : Addr} {o : HO} (h : Same Hs H) (hp : H p = none) : Step H Hs (upd H p o) Hs [p] where
  all := fun b u e => by rw [upd_ne (ne_of_none e hp)]; exact e
  shr := Same.refl _
  sub := fun b u e => by rw [upd_ne (ne_of_none (h b u e) hp)]; exact h b u e
  new := fun a h1 _ => h1
  fr := fun a ha => by
    obtain rfl : a = p := by simpa using ha
    exact ⟨hp, h.free hp⟩
  nd := by simp
/-- the new parts are shared -/
theorem Step.froz (a : Step H Hs H1 Hs1 Fr) : ∃ Hs2, Step H Hs H1 Hs2 [] ∧ Same Hs1 Hs2 ∧ ∀ x ∈ Fr, Hs2 x = H1 x := by
  classical
  refine ⟨fun x => if x ∈ Fr then H1 x else Hs1 x, ⟨a.all, fun x o e => ?_, fun x o e => ?_, fun x h1 h2 => ?_, fun _ h => absurd h List.not_mem_nil, List.nodup_nil⟩, fun x o e => ?_, fun x hx => if_pos hx⟩
  · have n : x ∉ Fr := fun hx => by have z := (a.fr x hx).2; rw [a.shr x o e] at z; cases z
    show (if x ∈ Fr then H1 x else Hs1 x) = some o
    rw [if_neg n]; exact a.shr x o e
  · have e' : (if x ∈ Fr then H1 x else Hs1 x) = some o := e
    by_cases hx : x ∈ Fr
    · rw [if_pos hx] at e'; exact e'
    · rw [if_neg hx] at e'; exact a.sub x o e'
  · show (if x ∈ Fr then H1 x else Hs1 x) = none
    have n : x ∉ Fr := fun hx => by
      obtain ⟨o, ho⟩ := h2
      rw [(a.fr x hx).1] at ho; cases ho
    rw [if_neg n]; exact a.new x h1 h2
  · show (if x ∈ Fr then H1 x else Hs1 x) = some o
    have n : x ∉ Fr := fun hx => by rw [(a.fr x hx).2] at e; cases e
    rw [if_neg n]; exact e
theorem Step.drop (a : Step H Hs H1 Hs1 Fr) : Step H Hs H1 Hs1 [] := ⟨a.all, a.shr, a.sub, a.new, fun _ h => absurd h List.not_mem_nil, List.nodup_nil⟩
theorem EOk.sub (ok : EOk S H0 G0 H Hs Γ F σ η) : Same Hs H := ok.st.sub
theorem EOk.step (ok : EOk S H0 G0 H Hs Γ F σ η) (a : Step H Hs H1 Hs1 Fr) : EOk S H0 G0 H1 Hs1 Γ F σ η where
  st := ok.st.trans a.drop
  len := ok.len
  slot := fun i d e => by
    obtain ⟨v, h1, h2⟩ := ok.slot i d e
    refine ⟨v, h1, h2.move a.shr d _ v _ fun x hx => ?_⟩
    obtain ⟨o, ho⟩ := h2.there d _ v _ x hx
    rw [ho, a.all x o ho]
  hid := fun i x hx => by
    obtain ⟨h1, h3, o, h2⟩ := ok.hid i x hx
    exact ⟨a.new x h1 ⟨o, h2⟩, h3, o, a.all x o h2⟩
  disj := ok.disj
  nd := ok.nd
  hot := ok.hot
/-- all slots shared -/
theorem EOk.froz (ok : EOk S H0 G0 H Hs Γ F σ η) (p : Nat → Bool) : ∃ Hs' F', EOk S H0 G0 H Hs' ((List.range Γ.length).map fun i => if p i then Γ.getD i 0 else 0) F' σ η ∧ Same Hs Hs' ∧ (∀ i, p i = true → F' i = F i) := by
  classical
  have hG : ∀ i, ((List.range Γ.length).map fun i => if p i then Γ.getD i 0 else 0).getD i 0 = if p i then Γ.getD i 0 else 0 := fun i => by
    by_cases hi : i < Γ.length
    · simp [List.getD, hi]
    · have e : Γ.getD i 0 = 0 := by simp [List.getD, hi]
      rw [e]
      simp [List.getD, hi]
  refine ⟨fun x => if ∃ i, p i = false ∧ x ∈ F i then H x else Hs x, fun i => if p i then F i else [], ⟨⟨ok.st.all, fun x o e => ?_, fun x o e => ?_, fun x h1 h2 => ?_, fun _ h => absurd h List.not_mem_nil, List.nodup_nil⟩, ok.len, fun i d e => ?_, fun i a ha => ?_, fun i j a ha hb => ?_, fun i => ?_, ok.hot⟩, fun x o e => ?_, fun i hi => by simp [hi]⟩
  · have n : ¬ ∃ i, p i = false ∧ x ∈ F i := fun ⟨i, _, hx⟩ => by
      have y := (ok.hid i x hx).1
      rw [ok.st.shr x o e] at y
      cases y
    show (if ∃ i, p i = false ∧ x ∈ F i then H x else Hs x) = some o
    rw [if_neg n]; exact ok.st.shr x o e
  · have e' : (if ∃ i, p i = false ∧ x ∈ F i then H x else Hs x) = some o := e
    by_cases hx : ∃ i, p i = false ∧ x ∈ F i
    · rw [if_pos hx] at e'; exact e'
    · rw [if_neg hx] at e'; exact ok.st.sub x o e'
  · show (if ∃ i, p i = false ∧ x ∈ F i then H x else Hs x) = none
    have n : ¬ ∃ i, p i = false ∧ x ∈ F i := fun ⟨i, _, hx⟩ => by
      obtain ⟨o, ho⟩ := h2
      rw [(ok.hid i x hx).2.1] at ho; cases ho
    rw [if_neg n]; exact ok.st.new x h1 h2
  · obtain ⟨v, h1, h2⟩ := ok.slot i d e
    have sm : Same Hs (fun x => if ∃ i, p i = false ∧ x ∈ F i then H x else Hs x) := fun x o e => by
      show (if ∃ i, p i = false ∧ x ∈ F i then H x else Hs x) = some o
      have n : ¬ ∃ i, p i = false ∧ x ∈ F i := fun ⟨i, _, hx⟩ => by rw [(ok.hid i x hx).1] at e; cases e
      rw [if_neg n]; exact e
    refine ⟨v, h1, ?_⟩
    rw [hG]
    cases hp : p i with
    | true =>
      simp only [if_true]
      exact h2.move sm d _ v _ fun _ _ => rfl
    | false =>
      simp only [Bool.false_eq_true, if_false]
      exact Own.zero.mpr ⟨rfl, h2.froz sm d _ v _ fun x hx => if_pos ⟨i, hp, hx⟩⟩
  · cases hp : p i with
    | true =>
      simp only [hp, if_true] at ha
      obtain ⟨h1, h2⟩ := ok.hid i a ha
      refine ⟨?_, h2⟩
      show (if ∃ i, p i = false ∧ a ∈ F i then H a else Hs a) = none
      rw [if_neg (fun ⟨j, hj, hx⟩ => by
        have := ok.disj i j a ha hx
        subst this
        rw [hp] at hj; cases hj)]
      exact h1
    | false => simp [hp] at ha
  · cases hp : p i with
    | true =>
      cases hq : p j with
      | true =>
        simp only [hp, hq, if_true] at ha hb
        exact ok.disj i j a ha hb
      | false => simp [hq] at hb
    | false => simp [hp] at ha
  · cases hp : p i with
    | true => simp only [if_true]; exact ok.nd i
    | false => simp
  · show (if ∃ i, p i = false ∧ x ∈ F i then H x else Hs x) = some o
    have n : ¬ ∃ i, p i = false ∧ x ∈ F i := fun ⟨i, _, hx⟩ => by rw [(ok.hid i x hx).1] at e; cases e
    rw [if_neg n]; exact e
end
/-! ### what the error held does not matter to -/
section
variable {K : PySem.W.Frag} {mg : Str → Option Value} {h h' : Option (Nat × Addr × Er)} {H Hs : Hp}
mutual
theorem Rep.cool : ∀ (d : D) (v : V), Rep ⟨K, mg, h⟩ H d v → Rep ⟨K, mg, h'⟩ H d v
  | .non, _, q => q
  | .bl _, _, q => q
  | .int _, _, q => q
  | .str _, _, q => q
  | .byt _, _, q => q
  | .lst ds, v, q => by
    unfold Rep at q ⊢
    obtain ⟨a, vs, h1, h2, h3⟩ := q
    exact ⟨a, vs, h1, h2, Reps.cool ds vs h3⟩
  | .tup ds, v, q => by
    unfold Rep at q ⊢
    obtain ⟨a, vs, h1, h2, h3⟩ := q
    exact ⟨a, vs, h1, h2, Reps.cool ds vs h3⟩
  | .ins c ds, v, q => by
    unfold Rep at q ⊢
    obtain ⟨a, C, dx, fs, h1, h2, h3, h4, h5⟩ := q
    exact ⟨a, C, dx, fs, h1, h2, h3, h4, Reps.cool ds _ h5⟩
theorem Reps.cool : ∀ (ds : List D) (vs : List V), Reps ⟨K, mg, h⟩ H ds vs → Reps ⟨K, mg, h'⟩ H ds vs
  | [], vs, q => q
  | d :: ds, vs, q => by
    unfold Reps at q ⊢
    obtain ⟨v, ws, h1, h2, h3⟩ := q
    exact ⟨v, ws, h1, Rep.cool d v h2, Reps.cool ds ws h3⟩
end
theorem Own.cool (d : D) : ∀ (n : Nat) (v : V) (F : List Addr), Own ⟨K, mg, h⟩ H Hs d n v F → Own ⟨K, mg, h'⟩ H Hs d n v F := by
  refine D.rec (motive_1 := fun d => ∀ (n : Nat) (v : V) (F : List Addr), Own ⟨K, mg, h⟩ H Hs d n v F → Own ⟨K, mg, h'⟩ H Hs d n v F)
    (motive_2 := fun ds => ∀ (n : Nat) (vs : List V) (F : List Addr), Owns ⟨K, mg, h⟩ H Hs ds n vs F → Owns ⟨K, mg, h'⟩ H Hs ds n vs F) ?_ ?_ ?_ ?_ ?_ ?_ ?_ ?_ ?_ ?_ d
  · intro n v F q; exact (Own.other rfl).mpr ⟨((Own.other rfl).mp q).1, ((Own.other rfl).mp q).2.cool⟩
  · intro b n v F q; exact (Own.other rfl).mpr ⟨((Own.other rfl).mp q).1, ((Own.other rfl).mp q).2.cool⟩
  · intro b n v F q; exact (Own.other rfl).mpr ⟨((Own.other rfl).mp q).1, ((Own.other rfl).mp q).2.cool⟩
  · intro b n v F q; exact (Own.other rfl).mpr ⟨((Own.other rfl).mp q).1, ((Own.other rfl).mp q).2.cool⟩
  · intro b n v F q; exact (Own.other rfl).mpr ⟨((Own.other rfl).mp q).1, ((Own.other rfl).mp q).2.cool⟩
  · intro ds ih n v F q
    cases n with
    | zero => exact Own.zero.mpr ⟨(Own.zero.mp q).1, (Own.zero.mp q).2.cool⟩
    | succ n =>
      obtain ⟨a, vs, G, rfl, rfl, h1, h2⟩ := Own.succ.mp q
      exact Own.succ.mpr ⟨a, vs, G, rfl, rfl, h1, ih n vs G h2⟩
  · intro ds _ n v F q; exact (Own.other rfl).mpr ⟨((Own.other rfl).mp q).1, ((Own.other rfl).mp q).2.cool⟩
  · intro c ds _ n v F q; exact (Own.other rfl).mpr ⟨((Own.other rfl).mp q).1, ((Own.other rfl).mp q).2.cool⟩
  · intro n vs F q; exact Owns.nil.mpr (Owns.nil.mp q)
  · intro d ds ih1 ih2 n vs F q
    obtain ⟨v, ws, F1, F2, rfl, rfl, h1, h2⟩ := Owns.cons.mp q
    exact Owns.cons.mpr ⟨v, ws, F1, F2, rfl, rfl, ih1 n v F1 h1, ih2 n ws F2 h2⟩
end
end VL
/-! VLExpr: readings that say what the tree functions give; one rule a construct of an expression. -/
namespace VL
open PySem PySem.Spec L2
abbrev sta (X : Cx) (h : Option (Nat × Addr × Er)) : Sta := ⟨X.K, X.mg, h⟩
/-- the class of such an error, no dict of its own -/
def clsIs (S : Sta) (e : Er) (cls : Value) (d : Option Addr) : Prop := d = none ∧ ∃ C : Addr, cls = .ref C ∧ S.mg e.name = some (.ref C)
def Post {α : Type} (S : Sta) (W : WX) (σ : L2.St) (H : Hp) (r : Res α) (k : α → Prop) : Prop := match r with
  | .ok a => k a
  | .exc e => ∀ (cls : Value) (d : Option Addr) (H' : Hp), clsIs S e cls d → Same H H' → W cls d σ H'
  | .stuck => False
def tE (S : Sta) (W : WX) (Γ : List Nat) (m : M D) (n : Nat) : TE := fun σ H Q => ∃ (H0 G0 Hs : Hp) (F : Nat → List Addr) (η : Env), EOk S H0 G0 H Hs Γ F σ η ∧
  Post S W σ H (m η) fun d => ∀ (v : V) (H' Hs' : Hp) (Fr : List Addr), Step H Hs H' Hs' Fr → Own S H' Hs' d n v Fr → Q v H'
def tA (S : Sta) (W : WX) (Γ : List Nat) (m : M (List D)) : TA := fun σ H Q => ∃ (H0 G0 Hs : Hp) (F : Nat → List Addr) (η : Env), EOk S H0 G0 H Hs Γ F σ η ∧
  Post S W σ H (m η) fun ds => ∀ (vs : List V) (H' Hs' : Hp), Step H Hs H' Hs' [] → Reps S Hs' ds vs → Q vs H'
def tQ (S : Sta) (W : WX) (Γ : List Nat) (m : M Bool) : TT := fun σ H Q => ∃ (H0 G0 Hs : Hp) (F : Nat → List Addr) (η : Env), EOk S H0 G0 H Hs Γ F σ η ∧
  Post S W σ H (m η) fun b => ∀ (H' Hs' : Hp), Step H Hs H' Hs' [] → Q b H'
def tP (S : Sta) (W : WX) (Γ : List Nat) (m : M (Option Int)) : TO := fun σ H Q => ∃ (H0 G0 Hs : Hp) (F : Nat → List Addr) (η : Env), EOk S H0 G0 H Hs Γ F σ η ∧
  Post S W σ H (m η) fun o => ∀ (H' Hs' : Hp), Step H Hs H' Hs' [] → Q o H'
section
variable {S : Sta} {W : WX} {σ : L2.St} {H H1 H0 G0 Hs : Hp} {Γ : List Nat} {F : Nat → List Addr} {η : Env} {α β : Type}
theorem Post.bind {r : Res α} {f : α → Res β} {k : β → Prop} (h : Post S W σ H (r.bind f) k) : Post S W σ H r fun a => Post S W σ H (f a) k := by
  cases r with
  | ok a => exact h
  | exc e => exact h
  | stuck => exact h
theorem Post.imp {r : Res α} {k k' : α → Prop} (h : Post S W σ H r k) (i : ∀ a, k a → k' a) : Post S W σ H r k' := by
  cases r with
  | ok a => exact i a h
  | exc e => exact h
  | stuck => exact h
theorem Post.up {r : Res α} {k : α → Prop} (h : Post S W σ H r k) (s : Same H H1) : Post S W σ H1 r k := by
  cases r with
  | ok a => exact h
  | exc e => exact fun cls d H' c s' => h cls d H' c (s.trans s')
  | stuck => exact h
theorem Own.shared {H' Hs' : Hp} {d : D} {n : Nat} {v : V} {Fr : List Addr} (st : Step H Hs H' Hs' Fr) (h : Own S H' Hs' d n v Fr) : ∃ Hs2, Step H Hs H' Hs2 [] ∧ Rep S Hs2 d v := by
  obtain ⟨Hs2, h1, h2, h3⟩ := st.froz
  exact ⟨Hs2, h1, h.froz h2 d n v Fr h3⟩
theorem Rep.own {H' : Hp} {d : D} {v : V} (h : Rep S Hs d v) : Own S H' Hs d 0 v [] := Own.zero.mpr ⟨rfl, h⟩
theorem Own.scal {H' : Hp} {d : D} {n : Nat} {v : V} (hd : d.isLst = false) (h : Rep S Hs d v) : Own S H' Hs d n v [] := (Own.other hd).mpr ⟨rfl, h⟩
/-- an expression's reading is used: its value, shared -/
theorem tE.use {m : M D} {n : Nat} {Q : VK} (ok : EOk S H0 G0 H Hs Γ F σ η) (p : Post S W σ H (m η) fun d => ∀ (v : V) (H' Hs' : Hp), Step H Hs H' Hs' [] → Rep S Hs' d v → EOk S H0 G0 H' Hs' Γ F σ η → Q v H') : tE S W Γ m n σ H Q :=
  ⟨H0, G0, Hs, F, η, ok, p.imp fun d k v H' Hs' Fr st o => by
    obtain ⟨Hs2, st2, r⟩ := Own.shared st o
    exact k v H' Hs2 st2 r (ok.step st2)⟩
theorem tA.use {m : M (List D)} {Q : List V → Hp → Prop} (ok : EOk S H0 G0 H Hs Γ F σ η) (p : Post S W σ H (m η) fun ds => ∀ (vs : List V) (H' Hs' : Hp), Step H Hs H' Hs' [] → Reps S Hs' ds vs → EOk S H0 G0 H' Hs' Γ F σ η → Q vs H') : tA S W Γ m σ H Q :=
  ⟨H0, G0, Hs, F, η, ok, p.imp fun ds k vs H' Hs' st r => k vs H' Hs' st r (ok.step st)⟩
theorem tQ.use {m : M Bool} {Q : Bool → Hp → Prop} (ok : EOk S H0 G0 H Hs Γ F σ η) (p : Post S W σ H (m η) fun b => ∀ (H' Hs' : Hp), Step H Hs H' Hs' [] → EOk S H0 G0 H' Hs' Γ F σ η → Q b H') : tQ S W Γ m σ H Q :=
  ⟨H0, G0, Hs, F, η, ok, p.imp fun b k H' Hs' st => k H' Hs' st (ok.step st)⟩
theorem tP.use {m : M (Option Int)} {Q : Option Int → Hp → Prop} (ok : EOk S H0 G0 H Hs Γ F σ η) (p : Post S W σ H (m η) fun o => ∀ (H' Hs' : Hp), Step H Hs H' Hs' [] → EOk S H0 G0 H' Hs' Γ F σ η → Q o H') : tP S W Γ m σ H Q :=
  ⟨H0, G0, Hs, F, η, ok, p.imp fun b k H' Hs' st => k H' Hs' st (ok.step st)⟩
end
/-! ### consequence -/
theorem impE {X : Cx} {e : Expr} {t t' : TE} (h : PE X e t) (i : ∀ σ H Q, t' σ H Q → t σ H Q) : PE X e t' := ⟨fun pins s σ H Q I w => h.run pins s σ H Q I (i σ H Q w)⟩
theorem impT {X : Cx} {e : Expr} {t t' : TT} (h : PT X e t) (i : ∀ σ H Q, t' σ H Q → t σ H Q) : PT X e t' := ⟨fun pins s σ H Q I w => h.run pins s σ H Q I (i σ H Q w)⟩
theorem impW {X : Cx} {e : Expr} {t t' : TT} (h : PW X e t) (i : ∀ σ H Q, t' σ H Q → t σ H Q) : PW X e t' := ⟨fun whole pins s σ H Q I w => h.run whole pins s σ H Q I (i σ H Q w)⟩
theorem impA {X : Cx} {es : List Expr} {t t' : TA} (h : PA X es t) (i : ∀ σ H Q, t' σ H Q → t σ H Q) : PA X es t' := ⟨fun pos pins s σ H Q I w => h.run pos pins s σ H Q I (i σ H Q w)⟩
theorem impO {X : Cx} {e : Option Expr} {t t' : TO} (h : PO X e t) (i : ∀ σ H Q, t' σ H Q → t σ H Q) : PO X e t' := ⟨fun pins s σ H Q I w => h.run pins s σ H Q I (i σ H Q w)⟩
theorem impS {X : Cx} {st : Stmt} {t t' : TS} (h : PS X st t) (i : ∀ D σ H, t' D σ H → t D σ H) : PS X st t' := ⟨fun pins s σ H D I w => h.run pins s σ H D I (i D σ H w)⟩
theorem impSs {X : Cx} {st : List Stmt} {t t' : TS} (h : PSs X st t) (i : ∀ D σ H, t' D σ H → t D σ H) : PSs X st t' := ⟨fun pins s σ H D I w => h.run pins s σ H D I (i D σ H w)⟩

/-! ### operators by values -/
/-- the operator r does what f says -/
def OpD (S : Sta) (r : R2) (f : D → D → Res D) (n : Nat) : Prop := ∀ (W : WX) (σ : L2.St) (H Hs : Hp) (a b : D) (x y : V) (Q : VK), Same Hs H → Rep S Hs a x → Rep S Hs b y →
  Post S W σ H (f a b) (fun d => ∀ (v : V) (H' Hs' : Hp) (Fr : List Addr), Step H Hs H' Hs' Fr → Own S H' Hs' d n v Fr → Q v H') → r x y H Q
def UnD (S : Sta) (r : V → Hp → VK → Prop) (f : D → Res D) (n : Nat) : Prop := ∀ (W : WX) (σ : L2.St) (H Hs : Hp) (a : D) (x : V) (Q : VK), Same Hs H → Rep S Hs a x →
  Post S W σ H (f a) (fun d => ∀ (v : V) (H' Hs' : Hp) (Fr : List Addr), Step H Hs H' Hs' Fr → Own S H' Hs' d n v Fr → Q v H') → r x H Q
def CallD (S : Sta) (r : List V → Hp → VK → Prop) (f : List D → Res D) (n : Nat) : Prop := ∀ (W : WX) (σ : L2.St) (H Hs : Hp) (as : List D) (xs : List V) (Q : VK), Same Hs H → Reps S Hs as xs →
  Post S W σ H (f as) (fun d => ∀ (v : V) (H' Hs' : Hp) (Fr : List Addr), Step H Hs H' Hs' Fr → Own S H' Hs' d n v Fr → Q v H') → r xs H Q
section
variable {X : Cx} {W : WX} {Γ : List Nat} {h : Option (Nat × Addr × Er)} {a b c e : Expr} {ma mb mc : M D} {na nb nc n : Nat} {pos : Pos}
theorem rep_int {S : Sta} {H : Hp} {i : Int} : Rep S H (.int i) (.int i) := by unfold Rep; rfl
theorem rep_bl {S : Sta} {H : Hp} {i : Bool} : Rep S H (.bl i) (.bl i) := by unfold Rep; rfl
theorem e_var (i : Nat) {x : Str} (hN : X.N[i]? = some x := by rfl) (hg : Γ.getD i 0 = 0 := by rfl) (hv : Vis X.env.scope x := by first | exact Or.inl rfl | exact Or.inr (Or.inl rfl) | exact Or.inr (Or.inr rfl)) (hd : (x == ("__debug__" : Str)) = false := by decide)
    (hcd : (x == ("__classdict__" : Str)) = false := by decide) : PE X (.Name x pos) (tE (sta X h) W Γ (dVar i) 0) := impE (pe_var hN hv hd hcd) fun σ H Q w => by
  obtain ⟨H0, G0, Hs, F, η, ok, p⟩ := w
  unfold dVar at p
  split at p
  · rename_i d hd
    obtain ⟨v, h1, h2⟩ := ok.slot i d hd
    rw [hg] at h2
    obtain ⟨e1, h3⟩ := Own.zero.mp h2
    exact ⟨v, h1, p v H Hs [] (Step.refl ok.sub) h3.own⟩
  · exact p.elim
/-- a slot that is moved out (return) is not read so -/
theorem e_lit {d : D} {v : V} (hp : PE X e (tC v)) (hs : d.isLst = false) (hr : ∀ (S : Sta) (H : Hp), Rep S H d v) : PE X e (tE (sta X h) W Γ (dLit d) n) := impE hp fun σ H Q w => by
  obtain ⟨H0, G0, Hs, F, η, ok, p⟩ := w
  exact p v H Hs [] (Step.refl ok.sub) (Own.scal hs (hr _ _))
theorem e_int {i : Int} {j} : PE X (.Constant (.int i) j pos) (tE (sta X h) W Γ (dLit (.int i)) n) := e_lit pe_int rfl fun _ _ => by unfold Rep; rfl
theorem e_bl {i : Bool} {j} : PE X (.Constant (.bool i) j pos) (tE (sta X h) W Γ (dLit (.bl i)) n) := e_lit pe_bl rfl fun _ _ => by unfold Rep; rfl
theorem e_non {j} : PE X (.Constant .none j pos) (tE (sta X h) W Γ (dLit .non) n) := e_lit pe_non rfl fun _ _ => by unfold Rep; rfl
theorem e_str {x : Str} {j} : PE X (.Constant (.str x) j pos) (tE (sta X h) W Γ (dLit (.str x)) n) := e_lit pe_str rfl fun _ _ => by unfold Rep; rfl
theorem op2_of {r : R2} {f : D → D → Res D} {S : Sta} {σ : L2.St} {H : Hp} {Q : VK} (hf : OpD S r f n) (w : tE S W Γ (dOp2 f ma mb) n σ H Q) : tOp r (tE S W Γ ma na) (tE S W Γ mb nb) σ H Q := by
  obtain ⟨H0, G0, Hs, F, η, ok, p⟩ := w
  refine tE.use ok ((Post.bind p).imp fun x px v H1 Hs1 st1 r1 ok1 => ?_)
  refine tE.use ok1 (((Post.bind px).up st1.all).imp fun y py u H2 Hs2 st2 r2 ok2 => ?_)
  exact hf W σ H2 Hs2 x y v u Q ok2.sub (r1.same st2.shr) r2 ((py.up (st1.all.trans st2.all)).imp fun d k v' H' Hs' Fr st o => k v' H' Hs' Fr ((st1.trans st2).trans st) o)
theorem e_op2 {op : Operator} {r : R2} {f : D → D → Res D} (ho : OpR X (binaryOp op) r) (hf : OpD (sta X h) r f n) (ha : PE X a (tE (sta X h) W Γ ma na)) (hb : PE X b (tE (sta X h) W Γ mb nb)) :
    PE X (.BinOp a op b pos) (tE (sta X h) W Γ (dOp2 f ma mb) n) := impE (pe_op ho ha hb) fun σ H Q w => op2_of hf w
theorem un_of {r : V → Hp → VK → Prop} {f : D → Res D} {S : Sta} {σ : L2.St} {H : Hp} {Q : VK} (hf : UnD S r f n) (w : tE S W Γ (dOp1 f ma) n σ H Q) : tUn r (tE S W Γ ma na) σ H Q := by
  obtain ⟨H0, G0, Hs, F, η, ok, p⟩ := w
  refine tE.use ok ((Post.bind p).imp fun x px v H1 Hs1 st1 r1 ok1 => ?_)
  exact hf W σ H1 Hs1 x v Q ok1.sub r1 ((px.up st1.all).imp fun d k v' H' Hs' Fr st o => k v' H' Hs' Fr (st1.trans st) o)
theorem e_un {op : UnaryOp} {r : V → Hp → VK → Prop} {f : D → Res D} (ho : UnR X (unaryOp op) r) (hf : UnD (sta X h) r f n) (ha : PE X a (tE (sta X h) W Γ ma na)) : PE X (.UnaryOp op a pos) (tE (sta X h) W Γ (dOp1 f ma) n) := impE (pe_un ho ha) fun σ H Q w => un_of hf w
/-! ints -/
theorem opd_I0 {S : Sta} {g : Int → Int → Int} {f : D → D → Res D} (hf : ∀ a b, (∃ i j, a = .int i ∧ b = .int j ∧ f a b = .ok (.int (g i j))) ∨ f a b = .stuck) : OpD S (rI0 fun i j => .int (g i j)) f n := by
  intro W σ H Hs a b x y Q sub ra rb p
  rcases hf a b with ⟨i, j, rfl, rfl, e⟩ | e
  · unfold Rep at ra rb
    rw [e] at p
    exact ⟨i, j, ra, rb, p _ H Hs [] (Step.refl sub) (Own.scal rfl rep_int)⟩
  · rw [e] at p; exact p.elim
theorem opd_B0 {S : Sta} {g : Int → Int → Bool} : OpD S (rI0 fun i j => .bl (g i j)) (cmpI g) n := by
  intro W σ H Hs a b x y Q sub ra rb p
  unfold cmpI at p
  split at p
  · unfold Rep at ra rb
    exact ⟨_, _, ra, rb, p _ H Hs [] (Step.refl sub) (Own.scal rfl rep_bl)⟩
  · exact p.elim
theorem opd_I {S : Sta} {C : Int → Int → Prop} {g : Int → Int → Int} {f : D → D → Res D} (hf : ∀ a b, (∃ i j, a = .int i ∧ b = .int j ∧ C i j ∧ f a b = .ok (.int (g i j))) ∨ f a b = .stuck) : OpD S (rI C fun i j => .int (g i j)) f n := by
  intro W σ H Hs a b x y Q sub ra rb p
  rcases hf a b with ⟨i, j, rfl, rfl, c, e⟩ | e
  · unfold Rep at ra rb
    rw [e] at p
    exact ⟨i, j, ra, rb, c, p _ H Hs [] (Step.refl sub) (Own.scal rfl rep_int)⟩
  · rw [e] at p; exact p.elim
theorem OpD.or {S : Sta} {r r' : R2} {f : D → D → Res D} {p : D → D → Bool} (h1 : ∀ W σ H Hs a b x y Q, p a b = true → Same Hs H → Rep S Hs a x → Rep S Hs b y → Post S W σ H (f a b) (fun d => ∀ (v : V) (H' Hs' : Hp) (Fr : List Addr), Step H Hs H' Hs' Fr → Own S H' Hs' d n v Fr → Q v H') → r x y H Q)
    (h2 : ∀ W σ H Hs a b x y Q, p a b = false → Same Hs H → Rep S Hs a x → Rep S Hs b y → Post S W σ H (f a b) (fun d => ∀ (v : V) (H' Hs' : Hp) (Fr : List Addr), Step H Hs H' Hs' Fr → Own S H' Hs' d n v Fr → Q v H') → r' x y H Q) : OpD S (fun x y H Q => r x y H Q ∨ r' x y H Q) f n := by
  intro W σ H Hs a b x y Q sub ra rb q
  cases hp : p a b with
  | true => exact .inl (h1 W σ H Hs a b x y Q hp sub ra rb q)
  | false => exact .inr (h2 W σ H Hs a b x y Q hp sub ra rb q)
/-! lists -/
def rCatS : R2 := fun x y H Q => ∃ l b xs zs, x = .ref l ∧ y = .ref b ∧ Rd H l (.lst xs) ∧ Rd H b (.lst zs) ∧ xs.length + zs.length ≤ sizeLine ∧ ∀ p, H p = none → Q (.ref p) (upd H p (.lst (xs ++ zs)))
theorem lstR {pins : List (Addr × Obj)} {σ : L2.St} {H : Hp} {s : Shared} {l : Addr} {xs : List V} (I : Inv X pins σ H s) (hH : Rd H l (.lst xs)) : xs.length ≤ sizeLine ∧ ∃ (its : List Value) (n : Nat), Vals xs its ∧ xs.length = its.length ∧ s.heap.get? l = some { cls := .type "list", data := .seq its.toArray n } := by
  obtain ⟨z, its, n, r, e⟩ := hH.ok I.hok
  exact ⟨z, its, n, r, r.length, e⟩
theorem op_catS : OpR X (binaryOp .Add) rCatS := by
  intro pins s σ H x y v u Q I rx ry h
  obtain ⟨l, b, xs, zs, rfl, rfl, hH, hB, hz, q⟩ := h
  cases rx
  cases ry
  obtain ⟨z, its, n, r, hl, e⟩ := lstR I hH
  obtain ⟨z2, its2, n2, r2, hl2, e2⟩ := lstR I hB
  refine PySem.P.add_list e e2 ?_ (by rw [List.size_toArray, List.size_toArray]; omega)
  have ea : its.toArray ++ its2.toArray = (its ++ its2).toArray := by simp
  rw [ea]
  exact ⟨.ref _, _, I.lnew (t' := s.toks) (r.append r2) (by rw [List.length_append]; omega), rfl, q _ I.fresh⟩
def rRepS : R2 := fun x y H Q => ∃ l k xs, x = .ref l ∧ y = .int k ∧ Rd H l (.lst xs) ∧ -(2 ^ 63) ≤ k ∧ k < 2 ^ 63 ∧ xs.length * k.toNat ≤ sizeLine ∧
  ∀ p, H p = none → Q (.ref p) (upd H p (.lst (List.replicate k.toNat xs).flatten))
theorem op_repS : OpR X (binaryOp .Mult) rRepS := by
  intro pins s σ H x y v u Q I rx ry h
  obtain ⟨l, k, xs, rfl, rfl, hH, h1, h2, hz, q⟩ := h
  cases rx
  obtain ⟨t, rfl⟩ := ry
  obtain ⟨z, its, n, r, hl, e⟩ := lstR I hH
  have hlen : its.toArray.size * k.toNat ≤ sizeLine := by rw [List.size_toArray, ← hl]; exact hz
  have hcap : ¬ its.toArray.size * k.toNat > (2 ^ 63 - 1) / 8 := by
    have : (sizeLine : Nat) ≤ (2 ^ 63 - 1) / 8 := by decide
    omega
  have hfit : ¬ (!Builtin.List.listFitsIndex k) = true := by
    rw [fitsIndex_both h1 h2]
    exact Bool.false_ne_true
  have hlong : ¬ Builtin.List.listTooLong (its.toArray.size * k.toNat) = true := by
    rw [notLongL hlen]
    exact Bool.false_ne_true
  have hnew : List.foldl (fun x1 x2 => x1 ++ x2) #[] (List.replicate (if its.toArray.isEmpty = true then 0 else k.toNat) its.toArray) = (List.replicate k.toNat its).flatten.toArray := by
    have f0 : ∀ m : Nat, List.foldl (fun x1 x2 => x1 ++ x2) #[] (List.replicate m its.toArray) = (List.replicate m its).flatten.toArray := fun m => by
      have := foldl_rep its m []
      rw [List.nil_append] at this
      exact this
    rw [f0]
    cases its with
    | nil => simp
    | cons a r' => rw [if_neg (by simp)]
  refine wpAny_binaryOp_repeat_ref (T := "list") (U := "int") (by decide) ⟨_, e, rfl⟩ (fun s' => typeIs_int s' k t) noFill_list_mul PySem.F.fills_int_mul PySem.F.slot_int_rmul repeat_list PySem.F.slot_int_index.lookup
    (call_meets PySem.F.slot_int_rmul (typeIs_int s k t) PySem.F.entry_int_rmul (PySem.F.args_int_rmul_2 _ _) (int___rmul___int_list k t l its.toArray n)
      ⟨e, rfl, ⟨_, e, rfl⟩, call_meets PySem.F.slot_list_mul ⟨_, e, rfl⟩ PySem.F.entry_list_mul (PySem.F.args_list_mul_2 _ _) (AutoListH.list___mul___list_int_3 l its.toArray n k t hfit hcap hlong) ⟨e, ?_⟩⟩)
  rw [hnew]
  exact ⟨.ref _, _, I.lnew (t' := s.toks) (r.rep k.toNat) (by rw [PyProof.Rows.lm_len_rep_flat, Nat.mul_comm]; exact hz), rfl, q _ I.fresh⟩
theorem line_eq : line = sizeLine := by rw [sizeLine_eq]; rfl
/-- a new list of shared items -/
theorem own_new {S : Sta} {H Hs : Hp} {p : Addr} {ds : List D} {vs : List V} (hp : H p = none) (r : Reps S Hs ds vs) : Own S (upd H p (.lst vs)) Hs (.lst ds) 1 (.ref p) [p] :=
  Own.succ.mpr ⟨p, vs, [], rfl, rfl, upd_same, Owns.of_reps r⟩
theorem rep_newT {S : Sta} {H Hs : Hp} {p : Addr} {ds : List D} {vs : List V} (sub : Same Hs H) (hp : H p = none) (r : Reps S Hs ds vs) : Rep S (upd Hs p (.tup vs)) (.tup ds) (.ref p) := by
  unfold Rep
  refine ⟨p, vs, rfl, SqT.of upd_same, r.same fun b u e => ?_⟩
  rw [upd_ne (ne_of_none (sub b u e) hp)]; exact e
def rAddD (K : PySem.W.Frag) : R2 := fun x y H Q => (rI0 fun i j => .int (i + j)) x y H Q ∨ (rCatS x y H Q ∨ rCatT K x y H Q)
theorem op_addD : OpR X (binaryOp .Add) (rAddD X.K) := op_add.or (op_catS.or op_catT)
theorem od_add : OpD (sta X h) (rAddD X.K) opAdd 1 := by
  intro W σ H Hs a b x y Q sub ra rb p
  unfold opAdd at p
  split at p
  · unfold Rep at ra rb
    exact .inl ⟨_, _, ra, rb, p _ H Hs [] (Step.refl sub) (Own.scal rfl rep_int)⟩
  · rename_i xs ys
    split at p
    · rename_i hl
      unfold Rep at ra rb
      obtain ⟨l, vs, rfl, h1, h2⟩ := ra
      obtain ⟨l2, ws, rfl, h3, h4⟩ := rb
      refine .inr (.inl ⟨l, l2, vs, ws, rfl, rfl, ?_, ?_, by rw [h2.length, h4.length, ← line_eq]; exact hl, fun q hq => p _ _ _ _ (Step.newO sub hq) (own_new hq (h2.append h4))⟩)
      · rcases h1 with e | ⟨o, e⟩
        · exact .inl (sub _ _ e)
        · exact .inr ⟨o, sub _ _ e⟩
      · rcases h3 with e | ⟨o, e⟩
        · exact .inl (sub _ _ e)
        · exact .inr ⟨o, sub _ _ e⟩
    · exact p.elim
  · rename_i xs ys
    split at p
    · rename_i hl
      unfold Rep at ra rb
      obtain ⟨l, vs, rfl, h1, h2⟩ := ra
      obtain ⟨l2, ws, rfl, h3, h4⟩ := rb
      have sqt : ∀ {a : Addr} {us : List V}, SqT X.K Hs a us → SqT X.K H a us := fun hh => by
        rcases hh with (e | ⟨o, e⟩) | e
        · exact .inl (.inl (sub _ _ e))
        · exact .inl (.inr ⟨o, sub _ _ e⟩)
        · exact .inr e
      refine .inr (.inr ⟨l, l2, vs, ws, rfl, rfl, sqt h1, sqt h3, fun e => ?_, by rw [h2.length, h4.length, ← line_eq]; exact hl.2, fun hw => ?_, fun hw q hq => ?_⟩)
      · have z := h2.length
        rw [e] at z
        exact hl.1 (List.length_eq_zero_iff.mp z.symm)
      · have z := h4.length
        rw [hw] at z
        have z' : ys = [] := List.length_eq_zero_iff.mp z.symm
        subst z'
        rw [List.append_nil] at p
        refine p _ H Hs [] (Step.refl sub) (Own.scal rfl ?_)
        unfold Rep
        exact ⟨l, vs, rfl, h1, h2⟩
      · exact p _ _ _ _ (Step.newS sub hq) (Own.scal rfl (rep_newT sub hq (h2.append h4)))
    · exact p.elim
  · exact p.elim
theorem od_sub {S : Sta} : OpD S (rI0 fun i j => .int (i - j)) opSub n := opd_I0 fun a b => by
  cases a <;> cases b <;> first | exact .inl ⟨_, _, rfl, rfl, rfl⟩ | exact .inr rfl
theorem mulOk_x {i j : Int} (q : mulOk i j = true) : CMulX i j := by
  have z := of_decide_eq_true q
  have b : ∀ x : Int, Builtin.Int.intBits x ≤ x.natAbs.log2 + 1 := fun x => by
    unfold Builtin.Int.intBits
    split <;> omega
  have h1 := b i
  have h2 := b j
  unfold CMulX
  omega
def rMulD : R2 := fun x y H Q => (rI CMulX fun i j => .int (i * j)) x y H Q ∨ rRepS x y H Q
theorem op_mulD : OpR X (binaryOp .Mult) rMulD := op_mulX.or op_repS
theorem rd_sub {H Hs : Hp} {a : Addr} {u : HO} (sub : Same Hs H) (r : Rd Hs a u) : Rd H a u := by
  rcases r with e | ⟨o, e⟩
  · exact .inl (sub _ _ e)
  · exact .inr ⟨o, sub _ _ e⟩
theorem sqt_sub {K : PySem.W.Frag} {H Hs : Hp} {a : Addr} {us : List V} (sub : Same Hs H) (hh : SqT K Hs a us) : SqT K H a us := by
  rcases hh with (e | ⟨o, e⟩) | e
  · exact .inl (.inl (sub _ _ e))
  · exact .inl (.inr ⟨o, sub _ _ e⟩)
  · exact .inr e
theorem od_mul {S : Sta} : OpD S rMulD opMul 1 := by
  intro W σ H Hs a b x y Q sub ra rb p
  unfold opMul at p
  split at p
  · split at p
    · rename_i hm
      unfold Rep at ra rb
      exact .inl ⟨_, _, ra, rb, mulOk_x hm, p _ H Hs [] (Step.refl sub) (Own.scal rfl rep_int)⟩
    · exact p.elim
  · split at p
    · rename_i hl
      unfold Rep at ra rb
      obtain ⟨l, vs, rfl, h1, h2⟩ := ra
      obtain ⟨l1, l2, l3⟩ := hl
      refine .inr ⟨l, _, vs, rfl, rb, rd_sub sub h1, by omega, by omega, by rw [h2.length, ← line_eq]; exact l3, fun q hq => p _ _ _ _ (Step.newO sub hq) (own_new hq (h2.rep _))⟩
    · exact p.elim
  · exact p.elim
def CDivL (i j : Int) : Prop := divOk i j = true
theorem op_fdivL : OpR X (binaryOp .FloorDiv) (rI CDivL fun i j => .int (i / j)) := opI fun i j _ _ _ _ _ hc q => by
  have hc' : (decide (0 < j) && (decide (j.natAbs.log2 < 9000) || decide (i.natAbs.log2 ≤ j.natAbs.log2 + 4000))) = true := hc
  simp only [Bool.and_eq_true, Bool.or_eq_true, decide_eq_true_eq] at hc'
  obtain ⟨h1, h2⟩ := hc'
  refine PyProof.Rows.floordiv_int (by omega) (by rw [Int.fdiv_eq_ediv_of_nonneg i (by omega)]; exact q) (.inl ?_)
  rcases h2 with h2 | h2
  · exact PyProof.noPylong_of_log2 h2
  · have hj : (j == 0) = false := by simpa using (show j ≠ 0 by omega)
    show (decide ((if j == 0 then 0 else j.natAbs.log2 / 30 + 1) > 300) && decide ((if i == 0 then 0 else i.natAbs.log2 / 30 + 1) > (if j == 0 then 0 else j.natAbs.log2 / 30 + 1) + 150)) = false
    rw [hj]
    have k : ¬ ((if i == 0 then 0 else i.natAbs.log2 / 30 + 1) > (if false = true then 0 else j.natAbs.log2 / 30 + 1) + 150) := by
      rw [if_neg Bool.false_ne_true]
      split <;> omega
    rw [decide_eq_false k, Bool.and_false]
theorem od_div {S : Sta} : OpD S (rI CDivL fun i j => .int (i / j)) opDiv n := opd_I fun a b => by
  cases a <;> cases b <;> first | exact .inr rfl | skip
  rename_i i j
  by_cases e : divOk i j = true
  · exact .inl ⟨_, _, rfl, rfl, e, by unfold opDiv; exact if_pos e⟩
  · exact .inr (by unfold opDiv; exact if_neg e)
theorem od_mod {S : Sta} : OpD S (rI (fun _ j => 0 < j) fun i j => .int (i % j)) opMod n := opd_I fun a b => by
  cases a <;> cases b <;> first | exact .inr rfl | skip
  rename_i i j
  by_cases e : 0 < j
  · exact .inl ⟨_, _, rfl, rfl, e, by unfold opMod; exact if_pos e⟩
  · exact .inr (by unfold opMod; exact if_neg e)
theorem od_pow {S : Sta} : OpD S (rI CPow fun i j => .int (i ^ j.toNat)) opPow n := opd_I fun a b => by
  cases a <;> cases b <;> first | exact .inr rfl | skip
  rename_i i j
  by_cases e : powOk i j = true
  · refine .inl ⟨_, _, rfl, rfl, ?_, by unfold opPow; exact if_pos e⟩
    unfold powOk at e
    simp only [Bool.and_eq_true, decide_eq_true_eq] at e
    exact e
  · exact .inr (by unfold opPow; exact if_neg e)
theorem od_shl {S : Sta} : OpD S (rI CShl fun i j => .int (i * 2 ^ j.toNat)) opShl n := opd_I fun a b => by
  cases a <;> cases b <;> first | exact .inr rfl | skip
  rename_i i j
  by_cases e : shlOk i j = true
  · refine .inl ⟨_, _, rfl, rfl, ?_, by unfold opShl; exact if_pos e⟩
    unfold shlOk at e
    simp only [Bool.and_eq_true, decide_eq_true_eq] at e
    have b : Builtin.Int.intBits i ≤ i.natAbs.log2 + 1 := by
      unfold Builtin.Int.intBits
      split <;> omega
    have e2 : (2 : Int) ^ 27 = 134217728 := by decide
    exact ⟨e.1, by rw [e2]; omega⟩
  · exact .inr (by unfold opShl; exact if_neg e)
theorem od_shr {S : Sta} : OpD S (rI (fun _ j => 0 ≤ j) fun i j => .int (i / 2 ^ j.toNat)) opShr n := opd_I fun a b => by
  cases a <;> cases b <;> first | exact .inr rfl | skip
  rename_i i j
  by_cases e : 0 ≤ j
  · exact .inl ⟨_, _, rfl, rfl, e, by unfold opShr; exact if_pos e⟩
  · exact .inr (by unfold opShr; exact if_neg e)
theorem od_and {S : Sta} : OpD S (rI0 fun i j => .int (Builtin.bitAnd i j)) opAnd n := opd_I0 fun a b => by
  cases a <;> cases b <;> first | exact .inl ⟨_, _, rfl, rfl, rfl⟩ | exact .inr rfl
theorem od_or {S : Sta} : OpD S (rI0 fun i j => .int (Builtin.bitOr i j)) opOr n := opd_I0 fun a b => by
  cases a <;> cases b <;> first | exact .inl ⟨_, _, rfl, rfl, rfl⟩ | exact .inr rfl
theorem od_xor {S : Sta} : OpD S (rI0 fun i j => .int (Builtin.bitXor i j)) opXor n := opd_I0 fun a b => by
  cases a <;> cases b <;> first | exact .inl ⟨_, _, rfl, rfl, rfl⟩ | exact .inr rfl
theorem und_I {S : Sta} {g : Int → Int} {f : D → Res D} (hf : ∀ a, (∃ i, a = .int i ∧ f a = .ok (.int (g i))) ∨ f a = .stuck) : UnD S (rU fun i => .int (g i)) f n := by
  intro W σ H Hs a x Q sub ra p
  rcases hf a with ⟨i, rfl, e⟩ | e
  · unfold Rep at ra
    rw [e] at p
    exact ⟨i, ra, p _ H Hs [] (Step.refl sub) (Own.scal rfl rep_int)⟩
  · rw [e] at p; exact p.elim
theorem ud_neg {S : Sta} : UnD S (rU fun i => .int (-i)) opNeg n := und_I fun a => by
  cases a <;> first | exact .inl ⟨_, rfl, rfl⟩ | exact .inr rfl
theorem ud_inv {S : Sta} : UnD S (rU fun i => .int (Builtin.bitNot i)) opInv n := und_I fun a => by
  cases a <;> first | exact .inl ⟨_, rfl, rfl⟩ | exact .inr rfl
end
end VL
/-! VLExpr2: comparisons, tests, displays, calls, items, slices, built-in functions. -/
namespace VL
open PySem PySem.Spec L2
section
variable {X : Cx} {W : WX} {Γ : List Nat} {h : Option (Nat × Addr × Er)} {a b c e : Expr} {es rest : List Expr} {ma mb mc : M D} {mas : M (List D)} {qa qb : M Bool} {na nb nc n k : Nat} {pos : Pos} {op op' : CmpOp} {r r' : R2} {f g : D → D → Res D} {t : TE}
/-! ### comparisons -/
theorem e_cmp (ho : OpR X (compareOp op) r) (hf : OpD (sta X h) r f n) (ha : PE X a (tE (sta X h) W Γ ma na)) (hb : PE X b (tE (sta X h) W Γ mb nb)) (hm : behindInMarks op b = false) :
    PE X (.Compare a [op] [b] pos) (tE (sta X h) W Γ (dOp2 f ma mb) n) := impE (pe_cmpR ho ha hb hm) fun σ H Q w => op2_of hf w
/-- a test of a value that is a bool -/
theorem test_of {S : Sta} {σ : L2.St} {H : Hp} {Q : Bool → Hp → Prop} {m : M D} (hi : ∀ Q, tE S W Γ m n σ H Q → t σ H Q) (w : tQ S W Γ (qB m) σ H Q) : tTest t σ H Q := by
  obtain ⟨H0, G0, Hs, F, η, ok, p⟩ := w
  refine hi _ (tE.use ok ((Post.bind p).imp fun d pd v H' Hs' st rd ok' => ?_))
  unfold toB at pd
  split at pd
  · rename_i b
    unfold Rep at rd
    exact ⟨b, rd, pd H' Hs' st⟩
  · exact pd.elim
theorem q_cmp (ho : OpR X (compareOp op) r) (hf : OpD (sta X h) r f 0) (ha : PE X a (tE (sta X h) W Γ ma na)) (hb : PE X b (tE (sta X h) W Γ mb nb)) (hm : behindInMarks op b = false) :
    PT X (.Compare a [op] [b] pos) (tQ (sta X h) W Γ (qB (dOp2 f ma mb))) := impT (pt_cmpR ho ha hb hm) fun σ H Q w => test_of (fun Q w => op2_of hf w) w
theorem chain_of {S : Sta} {σ : L2.St} {H : Hp} {Q : VK} (hf : OpD S r f 0) (hg : OpD S r' g n) (w : tE S W Γ (dChain f g ma mb mc) n σ H Q) : tChain r r' (tE S W Γ ma na) (tE S W Γ mb nb) (tE S W Γ mc nc) σ H Q := by
  obtain ⟨H0, G0, Hs, F, η, ok, p⟩ := w
  refine tE.use ok ((Post.bind p).imp fun x px v H1 Hs1 st1 r1 ok1 => ?_)
  refine tE.use ok1 (((Post.bind px).up st1.all).imp fun y py u H2 Hs2 st2 r2 ok2 => ?_)
  refine hf W σ H2 Hs2 x y v u _ ok2.sub (r1.same st2.shr) r2 (((Post.bind py).up (st1.all.trans st2.all)).imp fun d pd v' H3 Hs3 Fr st o => ?_)
  have pb := Post.bind pd
  obtain ⟨e0, rd⟩ := Own.zero.mp o
  unfold toB at pb
  split at pb
  · rename_i bb
    unfold Rep at rd
    refine ⟨bb, rd, ?_⟩
    have st3 : Step H Hs H3 Hs3 Fr := (st1.trans st2).trans st
    cases bb with
    | true =>
      have pb' : Post S W σ H ((mc η).bind fun z => g y z) _ := pb
      rw [if_pos rfl]
      refine tE.use (ok2.step st) (((Post.bind pb').up st3.all).imp fun z pz w' H4 Hs4 st4 r4 ok4 => ?_)
      exact hg W σ H4 Hs4 y z u w' Q ok4.sub (r2.same (st.shr.trans st4.shr)) r4 ((pz.up (st3.all.trans st4.all)).imp fun d k v5 H5 Hs5 Fr5 st5 o5 => k v5 H5 Hs5 Fr5 ((st3.drop.trans st4).trans st5) o5)
    | false =>
      rw [if_neg Bool.false_ne_true]
      have pb' : ∀ (v : V) (H' Hs' : Hp) (Fr : List Addr), Step H Hs H' Hs' Fr → Own S H' Hs' (.bl false) n v Fr → Q v H' := pb
      exact pb' _ _ _ _ st3.drop (Own.scal rfl rep_bl)
  · exact pb.elim
theorem e_chain (ho : OpR X (compareOp op) r) (ho' : OpR X (compareOp op') r') (hf : OpD (sta X h) r f 0) (hg : OpD (sta X h) r' g n) (ha : PE X a (tE (sta X h) W Γ ma na)) (hb : PE X b (tE (sta X h) W Γ mb nb)) (hc : PE X c (tE (sta X h) W Γ mc nc))
    (hm : lastMarks [op, op'] [b, c] = false := by with_unfolding_all rfl) : PE X (.Compare a [op, op'] [b, c] pos) (tE (sta X h) W Γ (dChain f g ma mb mc) n) := impE (pe_chain ho ho' ha hb hc hm) fun σ H Q w => chain_of hf hg w
theorem q_chain (ho : OpR X (compareOp op) r) (ho' : OpR X (compareOp op') r') (hf : OpD (sta X h) r f 0) (hg : OpD (sta X h) r' g 0) (ha : PE X a (tE (sta X h) W Γ ma na)) (hb : PE X b (tE (sta X h) W Γ mb nb)) (hc : PE X c (tE (sta X h) W Γ mc nc))
    (hm : lastMarks [op, op'] [b, c] = false := by with_unfolding_all rfl) : PT X (.Compare a [op, op'] [b, c] pos) (tQ (sta X h) W Γ (qB (dChain f g ma mb mc))) := impT (pt_chain ho ho' ha hb hc hm) fun σ H Q w => test_of (fun Q w => chain_of hf hg w) w
theorem ob_eq : OpD (sta X h) (rEqD X.K) opEq n :=by
  intro W σ H Hs a b x y Q sub ra rb p
  unfold opEq at p
  split at p
  · rename_i q
    rw [Bool.and_eq_true] at q
    obtain ⟨q1, q2⟩ := q
    unfold D.eqOk at q1 q2
    rw [Bool.and_eq_true] at q1 q2
    exact ⟨_, _, Rep.dp a x q1.1 (ra.same sub), Rep.dp b y q2.1 (rb.same sub), q1.2, q2.2, p _ H Hs [] (Step.refl sub) (Own.scal rfl rep_bl)⟩
  · exact p.elim
theorem od_eq (hu : X.A.units + 64 < cLine) : OpR X (compareOp .Eq) (rEqD X.K) ∧ OpD (sta X h) (rEqD X.K) opEq n := ⟨op_eqD hu, ob_eq⟩
theorem ob_ne : OpD (sta X h) (rNeD X.K) opNe n :=by
  intro W σ H Hs a b x y Q sub ra rb p
  unfold opNe at p
  split at p
  · rename_i q
    rw [Bool.and_eq_true] at q
    obtain ⟨q1, q2⟩ := q
    unfold D.eqOk at q1 q2
    rw [Bool.and_eq_true] at q1 q2
    exact ⟨_, _, Rep.dp a x q1.1 (ra.same sub), Rep.dp b y q2.1 (rb.same sub), q1.2, q2.2, p _ H Hs [] (Step.refl sub) (Own.scal rfl rep_bl)⟩
  · exact p.elim
theorem od_ne (hu : X.A.units + 64 < cLine) : OpR X (compareOp .NotEq) (rNeD X.K) ∧ OpD (sta X h) (rNeD X.K) opNe n := ⟨op_neD hu, ob_ne⟩
theorem od_isB {S : Sta} : OpD S rIsB opIsB n := by
  intro W σ H Hs a b x y Q sub ra rb p
  unfold opIsB at p
  split at p
  · unfold Rep at ra rb
    exact ⟨_, _, ra, rb, p _ H Hs [] (Step.refl sub) (Own.scal rfl rep_bl)⟩
  · exact p.elim
theorem od_notB {S : Sta} : OpD S rNotB opIsNotB n := by
  intro W σ H Hs a b x y Q sub ra rb p
  unfold opIsNotB at p
  split at p
  · unfold Rep at ra rb
    exact ⟨_, _, ra, rb, p _ H Hs [] (Step.refl sub) (Own.scal rfl rep_bl)⟩
  · exact p.elim
theorem rep_non {S : Sta} {H : Hp} {d : D} {v : V} (r : Rep S H d v) : decide (v = .non) = d.isNon := by
  cases d <;> (unfold Rep at r) <;> first
    | (rw [r]; rfl)
    | (obtain ⟨_, _, r, _⟩ := r; rw [r]; rfl)
    | (obtain ⟨_, _, _, _, r, _⟩ := r; rw [r]; rfl)
    | (obtain ⟨_, r, _⟩ := r; rw [r]; rfl)
theorem e_isNone {j pos'} (ha : PE X a (tE (sta X h) W Γ ma na)) : PE X (.Compare a [.Is] [.Constant .none j pos'] pos) (tE (sta X h) W Γ (dOp1 opIsNone ma) n) := impE (pe_cmp (pc_isN ha)) fun σ H Q w => by
  obtain ⟨H0, G0, Hs, F, η, ok, p⟩ := w
  refine tE.use ok ((Post.bind p).imp fun d pd v H' Hs' st rd ok' => ?_)
  rw [rep_non rd]
  exact pd _ H' Hs' [] st (Own.scal rfl rep_bl)
theorem e_notNone {j pos'} (ha : PE X a (tE (sta X h) W Γ ma na)) : PE X (.Compare a [.IsNot] [.Constant .none j pos'] pos) (tE (sta X h) W Γ (dOp1 opNotNone ma) n) := impE (pe_cmp (pc_notN ha)) fun σ H Q w => by
  obtain ⟨H0, G0, Hs, F, η, ok, p⟩ := w
  refine tE.use ok ((Post.bind p).imp fun d pd v H' Hs' st rd ok' => ?_)
  rw [rep_non rd]
  exact pd _ H' Hs' [] st (Own.scal rfl rep_bl)
theorem q_isNone {j pos'} (ha : PE X a (tE (sta X h) W Γ ma na)) : PT X (.Compare a [.Is] [.Constant .none j pos'] pos) (tQ (sta X h) W Γ (qB (dOp1 opIsNone ma))) := impT (pt_cmp (pc_isN ha)) fun σ H Q w => by
  obtain ⟨H0, G0, Hs, F, η, ok, p⟩ := w
  refine tE.use ok ((Post.bind (Post.bind p)).imp fun d pd v H' Hs' st rd ok' => ?_)
  rw [rep_non rd]
  exact ⟨_, rfl, pd H' Hs' st⟩
theorem q_notNone {j pos'} (ha : PE X a (tE (sta X h) W Γ ma na)) : PT X (.Compare a [.IsNot] [.Constant .none j pos'] pos) (tQ (sta X h) W Γ (qB (dOp1 opNotNone ma))) := impT (pt_cmp (pc_notN ha)) fun σ H Q w => by
  obtain ⟨H0, G0, Hs, F, η, ok, p⟩ := w
  refine tE.use ok ((Post.bind (Post.bind p)).imp fun d pd v H' Hs' st rd ok' => ?_)
  rw [rep_non rd]
  exact ⟨_, rfl, pd H' Hs' st⟩
/-! x in a list of plain data -/
theorem ob_in : OpD (sta X h) (rInD X.K) opIn n :=by
  intro W σ H Hs a b x y Q sub ra rb p
  unfold opIn at p
  split at p
  · rename_i ys
    split at p
    · rename_i q
      rw [Bool.and_eq_true] at q
      obtain ⟨q1, q2⟩ := q
      unfold D.eqOk at q1 q2
      rw [Bool.and_eq_true] at q1 q2
      refine ⟨a.toPD, D.toPDs ys, Rep.dp _ x q1.1 (ra.same sub), ?_, q1.2, ?_, ?_⟩
      · have z := Rep.dp _ y q2.1 (rb.same sub)
        unfold D.toPD at z
        exact z
      · have z := q2.2
        unfold D.toPD at z
        exact z
      · have e : ((D.toPDs ys).any fun z => PyData.eqv z (D.toPD a)) = ys.any fun y => D.eqv y a := by
          clear p q1 q2 rb
          induction ys with
          | nil => unfold D.toPDs; rfl
          | cons d ds ih => unfold D.toPDs; rw [List.any_cons, List.any_cons, ih]; rfl
        rw [e]
        exact p _ H Hs [] (Step.refl sub) (Own.scal rfl rep_bl)
    · exact p.elim
  · exact p.elim
theorem od_in (hu : X.A.units + 65 < cLine) : OpR X (compareOp .In) (rInD X.K) ∧ OpD (sta X h) (rInD X.K) opIn n := ⟨op_inD hu, ob_in⟩
theorem ob_notIn : OpD (sta X h) (rNotInD X.K) opNotIn n :=by
  intro W σ H Hs a b x y Q sub ra rb p
  unfold opNotIn at p
  split at p
  · rename_i ys
    split at p
    · rename_i q
      rw [Bool.and_eq_true] at q
      obtain ⟨q1, q2⟩ := q
      unfold D.eqOk at q1 q2
      rw [Bool.and_eq_true] at q1 q2
      refine ⟨a.toPD, D.toPDs ys, Rep.dp _ x q1.1 (ra.same sub), ?_, q1.2, ?_, ?_⟩
      · have z := Rep.dp _ y q2.1 (rb.same sub)
        unfold D.toPD at z
        exact z
      · have z := q2.2
        unfold D.toPD at z
        exact z
      · have e : ((D.toPDs ys).any fun z => PyData.eqv z (D.toPD a)) = ys.any fun y => D.eqv y a := by
          clear p q1 q2 rb
          induction ys with
          | nil => unfold D.toPDs; rfl
          | cons d ds ih => unfold D.toPDs; rw [List.any_cons, List.any_cons, ih]; rfl
        rw [e]
        exact p _ H Hs [] (Step.refl sub) (Own.scal rfl rep_bl)
    · exact p.elim
  · exact p.elim
theorem od_notIn (hu : X.A.units + 65 < cLine) : OpR X (compareOp .NotIn) (rNotInD X.K) ∧ OpD (sta X h) (rNotInD X.K) opNotIn n := ⟨op_notInD hu, ob_notIn⟩
/-! ### and, or, not, if -/
theorem e_one {o : BoolOp} (ha : PE X a t) : PE X (.BoolOp o [a] pos) t := pe_one ha
theorem e_and (ha : PE X a (tE (sta X h) W Γ ma na)) (hb : PE X (.BoolOp .And (b :: rest) pos) (tE (sta X h) W Γ mb n)) : PE X (.BoolOp .And (a :: b :: rest) pos) (tE (sta X h) W Γ (dAnd ma mb) n) := impE (pe_and ha hb) fun σ H Q w => by
  obtain ⟨H0, G0, Hs, F, η, ok, p⟩ := w
  refine tE.use ok ((Post.bind p).imp fun d pd v H' Hs' st rd ok' => ?_)
  have pb := Post.bind pd
  unfold toB at pb
  split at pb
  · rename_i bb
    unfold Rep at rd
    refine ⟨bb, rd, ?_⟩
    cases bb with
    | true =>
      rw [if_pos rfl]
      have pb' : Post (sta X h) W σ H (mb η) _ := pb
      exact ⟨H0, G0, Hs', F, η, ok', (pb'.up st.all).imp fun d k v2 H2 Hs2 Fr st2 o2 => k v2 H2 Hs2 Fr (st.trans st2) o2⟩
    | false =>
      rw [if_neg Bool.false_ne_true]
      have pb' : ∀ (v : V) (H' Hs' : Hp) (Fr : List Addr), Step H Hs H' Hs' Fr → Own (sta X h) H' Hs' (.bl false) n v Fr → Q v H' := pb
      exact pb' _ _ _ _ st (Own.scal rfl rep_bl)
  · exact pb.elim
theorem e_or (ha : PE X a (tE (sta X h) W Γ ma na)) (hb : PE X (.BoolOp .Or (b :: rest) pos) (tE (sta X h) W Γ mb n)) : PE X (.BoolOp .Or (a :: b :: rest) pos) (tE (sta X h) W Γ (dOr ma mb) n) := impE (pe_or ha hb) fun σ H Q w => by
  obtain ⟨H0, G0, Hs, F, η, ok, p⟩ := w
  refine tE.use ok ((Post.bind p).imp fun d pd v H' Hs' st rd ok' => ?_)
  have pb := Post.bind pd
  unfold toB at pb
  split at pb
  · rename_i bb
    unfold Rep at rd
    refine ⟨bb, rd, ?_⟩
    cases bb with
    | true =>
      rw [if_pos rfl]
      have pb' : ∀ (v : V) (H' Hs' : Hp) (Fr : List Addr), Step H Hs H' Hs' Fr → Own (sta X h) H' Hs' (.bl true) n v Fr → Q v H' := pb
      exact pb' _ _ _ _ st (Own.scal rfl rep_bl)
    | false =>
      rw [if_neg Bool.false_ne_true]
      have pb' : Post (sta X h) W σ H (mb η) _ := pb
      exact ⟨H0, G0, Hs', F, η, ok', (pb'.up st.all).imp fun d k v2 H2 Hs2 Fr st2 o2 => k v2 H2 Hs2 Fr (st.trans st2) o2⟩
  · exact pb.elim
theorem e_not (ha : PE X a (tE (sta X h) W Γ ma na)) : PE X (.UnaryOp .Not a pos) (tE (sta X h) W Γ (dNot ma) n) := impE (pe_not ha) fun σ H Q w => by
  obtain ⟨H0, G0, Hs, F, η, ok, p⟩ := w
  refine tE.use ok ((Post.bind p).imp fun d pd v H' Hs' st rd ok' => ?_)
  have pb := Post.bind pd
  unfold toB at pb
  split at pb
  · rename_i bb
    unfold Rep at rd
    exact ⟨bb, rd, pb _ _ _ _ st (Own.scal rfl rep_bl)⟩
  · exact pb.elim
/-- a test by the value's truth -/
theorem q_tru (ha : PE X a (tE (sta X h) W Γ ma na)) (he : ∀ whole, isTrue a X.env whole = (do let v ← whole; standAt a.pos; holding [v] (truthy v)) := by intro _; rfl) : PT X a (tQ (sta X h) W Γ (qTru ma)) := impT (pt_truth ha he) fun σ H Q w => by
  obtain ⟨H0, G0, Hs, F, η, ok, p⟩ := w
  refine tE.use ok ((Post.bind p).imp fun d pd v H' Hs' st rd ok' => ?_)
  unfold D.truth at pd
  cases d <;> first | exact pd.elim | skip
  · unfold Rep at rd
    exact ⟨false, by rw [rd]; exact rfl, pd H' Hs' st⟩
  · unfold Rep at rd
    exact ⟨_, by rw [rd]; exact rfl, pd H' Hs' st⟩
  · unfold Rep at rd
    exact ⟨_, by rw [rd]; exact rfl, pd H' Hs' st⟩
  · rename_i xs
    unfold Rep at rd
    obtain ⟨l, vs, rfl, r1, r2⟩ := rd
    have e : vs.isEmpty = xs.isEmpty := by
      have z := r2.length
      cases vs <;> cases xs <;> first | rfl | simp at z
    exact ⟨_, Or.inl ⟨vs, Or.inl (rd_sub ok'.sub r1), by rw [e]⟩, pd H' Hs' st⟩
  · rename_i xs
    unfold Rep at rd
    obtain ⟨l, vs, rfl, r1, r2⟩ := rd
    have e : vs.isEmpty = xs.isEmpty := by
      have z := r2.length
      cases vs <;> cases xs <;> first | rfl | simp at z
    exact ⟨_, Or.inr (Or.inl ⟨vs, sqt_sub ok'.sub r1, by rw [e]⟩), pd H' Hs' st⟩
theorem w_and1 (ha : PT X a (tQ (sta X h) W Γ qa)) : PW X (.BoolOp .And [a] pos) (tQ (sta X h) W Γ qa) := pw_and1 ha
theorem w_or1 (ha : PT X a (tQ (sta X h) W Γ qa)) : PW X (.BoolOp .Or [a] pos) (tQ (sta X h) W Γ qa) := pw_or1 ha
theorem w_and (ha : PT X a (tQ (sta X h) W Γ qa)) (hb : PW X (.BoolOp .And (b :: rest) pos) (tQ (sta X h) W Γ qb)) : PW X (.BoolOp .And (a :: b :: rest) pos) (tQ (sta X h) W Γ (qAnd qa qb)) := impW (pw_and ha hb) fun σ H Q w => by
  obtain ⟨H0, G0, Hs, F, η, ok, p⟩ := w
  refine tQ.use ok ((Post.bind p).imp fun b pb H' Hs' st ok' => ?_)
  cases b with
  | true =>
    rw [if_pos rfl]
    have pb' : Post (sta X h) W σ H (qb η) _ := pb
    exact ⟨H0, G0, Hs', F, η, ok', (pb'.up st.all).imp fun b k H2 Hs2 st2 => k H2 Hs2 (st.trans st2)⟩
  | false =>
    rw [if_neg Bool.false_ne_true]
    have pb' : ∀ (H' Hs' : Hp), Step H Hs H' Hs' [] → Q false H' := pb
    exact pb' _ _ st
theorem w_or (ha : PT X a (tQ (sta X h) W Γ qa)) (hb : PW X (.BoolOp .Or (b :: rest) pos) (tQ (sta X h) W Γ qb)) : PW X (.BoolOp .Or (a :: b :: rest) pos) (tQ (sta X h) W Γ (qOr qa qb)) := impW (pw_or ha hb) fun σ H Q w => by
  obtain ⟨H0, G0, Hs, F, η, ok, p⟩ := w
  refine tQ.use ok ((Post.bind p).imp fun b pb H' Hs' st ok' => ?_)
  cases b with
  | true =>
    rw [if_pos rfl]
    have pb' : ∀ (H' Hs' : Hp), Step H Hs H' Hs' [] → Q true H' := pb
    exact pb' _ _ st
  | false =>
    rw [if_neg Bool.false_ne_true]
    have pb' : Post (sta X h) W σ H (qb η) _ := pb
    exact ⟨H0, G0, Hs', F, η, ok', (pb'.up st.all).imp fun b k H2 Hs2 st2 => k H2 Hs2 (st.trans st2)⟩
theorem q_w (ha : PW X a (tQ (sta X h) W Γ qa)) : PT X a (tQ (sta X h) W Γ qa) := ha.pt
theorem q_not (ha : PT X a (tQ (sta X h) W Γ qa)) : PT X (.UnaryOp .Not a pos) (tQ (sta X h) W Γ (qNot qa)) := impT (pt_not ha) fun σ H Q w => by
  obtain ⟨H0, G0, Hs, F, η, ok, p⟩ := w
  exact tQ.use ok ((Post.bind p).imp fun b pb H' Hs' st ok' => pb H' Hs' st)
theorem e_if (hc : PT X c (tQ (sta X h) W Γ qa)) (ha : PE X a (tE (sta X h) W Γ ma n)) (hb : PE X b (tE (sta X h) W Γ mb n)) : PE X (.IfExp c a b pos) (tE (sta X h) W Γ (dIf qa ma mb) n) := impE (pe_ifExp hc ha hb) fun σ H Q w => by
  obtain ⟨H0, G0, Hs, F, η, ok, p⟩ := w
  refine tQ.use ok ((Post.bind p).imp fun b pb H' Hs' st ok' => ?_)
  cases b with
  | true =>
    rw [if_pos rfl]
    have pb' : Post (sta X h) W σ H (ma η) _ := pb
    exact ⟨H0, G0, Hs', F, η, ok', (pb'.up st.all).imp fun d k v2 H2 Hs2 Fr st2 o2 => k v2 H2 Hs2 Fr (st.trans st2) o2⟩
  | false =>
    rw [if_neg Bool.false_ne_true]
    have pb' : Post (sta X h) W σ H (mb η) _ := pb
    exact ⟨H0, G0, Hs', F, η, ok', (pb'.up st.all).imp fun d k v2 H2 Hs2 Fr st2 o2 => k v2 H2 Hs2 Fr (st.trans st2) o2⟩
/-! ### arguments, displays -/
theorem a_nil : PA X [] (tA (sta X h) W Γ aNil) := impA pa_nil fun σ H Q w => by
  obtain ⟨H0, G0, Hs, F, η, ok, p⟩ := w
  exact p [] H Hs (Step.refl ok.sub) (Reps.nil_iff.mpr rfl)
theorem a_cons (ha : PE X e (tE (sta X h) W Γ ma na)) (hr : PA X es (tA (sta X h) W Γ mas)) (hs : starEach (e :: es) X.env = (false, eval e X.env) :: starEach es X.env := by rfl) : PA X (e :: es) (tA (sta X h) W Γ (aCons ma mas)) := impA (pa_cons ha hr hs) fun σ H Q w => by
  obtain ⟨H0, G0, Hs, F, η, ok, p⟩ := w
  refine tE.use ok ((Post.bind p).imp fun d pd v H1 Hs1 st1 r1 ok1 => ?_)
  refine tA.use ok1 (((Post.bind pd).up st1.all).imp fun ds pds vs H2 Hs2 st2 r2 ok2 => ?_)
  exact pds (v :: vs) H2 Hs2 (st1.trans st2) (Reps.cons_iff.mpr ⟨v, vs, rfl, r1.same st2.shr, r2⟩)
theorem e_tup {x1} (ha : PA X es (tA (sta X h) W Γ mas)) : PE X (.Tuple es x1 pos) (tE (sta X h) W Γ (dTup mas) n) := impE (pe_tup ha) fun σ H Q w => by
  obtain ⟨H0, G0, Hs, F, η, ok, p⟩ := w
  refine tA.use ok ((Post.bind p).imp fun ds pd vs H1 Hs1 st1 r1 ok1 => ?_)
  split at pd
  · rename_i hl
    exact ⟨by rw [r1.length, ← line_eq]; exact hl, fun q hq => pd _ _ _ [] (st1.trans (Step.newS ok1.sub hq)) (Own.scal rfl (rep_newT ok1.sub hq r1))⟩
  · exact pd.elim
theorem e_lst (ha : PA X es (tA (sta X h) W Γ mas)) : PE X (.List es pos) (tE (sta X h) W Γ (dLst mas) 1) := impE (pe_lst ha) fun σ H Q w => by
  obtain ⟨H0, G0, Hs, F, η, ok, p⟩ := w
  refine tA.use ok ((Post.bind p).imp fun ds pd vs H1 Hs1 st1 r1 ok1 => ?_)
  split at pd
  · rename_i hl
    exact ⟨by rw [r1.length, ← line_eq]; exact hl, fun q hq => pd _ _ _ _ (st1.trans (Step.newO ok1.sub hq)) (own_new hq r1)⟩
  · exact pd.elim
/-- a fresh value is shared -/
theorem e_fz (ha : PE X e (tE (sta X h) W Γ ma na)) : PE X e (tE (sta X h) W Γ ma 0) := impE ha fun σ H Q w => by
  obtain ⟨H0, G0, Hs, F, η, ok, p⟩ := w
  exact tE.use ok (p.imp fun d k v H' Hs' st r _ => k v H' Hs' [] st r.own)
/-! ### built-in functions -/
theorem e_blt {x : Str} {id : String} {f : List D → Res D} {r : List V → Hp → VK → Prop} {p : Pos} (hc : CallR X (.builtin id) r) (hf : CallD (sta X h) r f n) (hg : Gl X x) (hm : X.mg x = none) (hv : bootBuiltins x = some (.builtin id)) (ha : PA X (e :: es) (tA (sta X h) W Γ mas))
    (hn : x ≠ "__name__" := by decide) (hdb : (x == ("__debug__" : Str)) = false := by decide) (hs : starEach (e :: es) X.env = (false, eval e X.env) :: starEach es X.env := by rfl) (hpl : (backTo pos (starEach es X.env)).any (·.1) = false := by rfl) :
    PE X (.Call (.Name x p) (e :: es) [] pos) (tE (sta X h) W Γ (dCall f mas) n) := impE (pe_callB hc hg hm hv ha hn hdb hs hpl) fun σ H Q w => by
  obtain ⟨H0, G0, Hs, F, η, ok, p⟩ := w
  refine tA.use ok ((Post.bind p).imp fun ds pd vs H1 Hs1 st1 r1 ok1 => ?_)
  exact hf W σ H1 Hs1 ds vs Q ok1.sub r1 ((pd.up st1.all).imp fun d k v H' Hs' Fr st o => k v H' Hs' Fr (st1.trans st) o)
theorem e_ty {x : Str} {T : String} {f : List D → Res D} {r : List V → Hp → VK → Prop} {p : Pos} (hc : CallR X (.type T) r) (hf : CallD (sta X h) r f n) (hg : Gl X x) (hm : X.mg x = none) (hv : bootBuiltins x = some (.type T)) (ha : PA X (e :: es) (tA (sta X h) W Γ mas))
    (hn : x ≠ "__name__" := by decide) (hdb : (x == ("__debug__" : Str)) = false := by decide) (hs : starEach (e :: es) X.env = (false, eval e X.env) :: starEach es X.env := by rfl) (hpl : (backTo pos (starEach es X.env)).any (·.1) = false := by rfl) :
    PE X (.Call (.Name x p) (e :: es) [] pos) (tE (sta X h) W Γ (dCall f mas) n) := impE (pe_callTy hc hg hm hv ha hn hdb hs hpl) fun σ H Q w => by
  obtain ⟨H0, G0, Hs, F, η, ok, p⟩ := w
  refine tA.use ok ((Post.bind p).imp fun ds pd vs H1 Hs1 st1 r1 ok1 => ?_)
  exact hf W σ H1 Hs1 ds vs Q ok1.sub r1 ((pd.up st1.all).imp fun d k v H' Hs' Fr st o => k v H' Hs' Fr (st1.trans st) o)
end
end VL
/-! VLExpr3: built-in functions by name, items, slices, isinstance, defs called, what is owned is looked at, comprehensions. -/
namespace VL
open PySem PySem.Spec L2
theorem bt_abs : bootBuiltins "abs" = some (.builtin "abs") := by decide +kernel
theorem bt_len : bootBuiltins "len" = some (.builtin "len") := by decide +kernel
theorem bt_max : bootBuiltins "max" = some (.builtin "max") := by decide +kernel
theorem bt_min : bootBuiltins "min" = some (.builtin "min") := by decide +kernel
theorem bt_sum : bootBuiltins "sum" = some (.builtin "sum") := by decide +kernel
theorem bt_isi : bootBuiltins "isinstance" = some (.builtin "isinstance") := by decide +kernel
theorem bt_int : bootBuiltins "int" = some (.type "int") := by decide +kernel
theorem bt_bool : bootBuiltins "bool" = some (.type "bool") := by decide +kernel
theorem bt_str : bootBuiltins "str" = some (.type "str") := by decide +kernel
theorem bt_list : bootBuiltins "list" = some (.type "list") := by decide +kernel
theorem bt_tuple : bootBuiltins "tuple" = some (.type "tuple") := by decide +kernel
section
variable {S : Sta} {K : PySem.W.Frag} {X : Cx} {n : Nat} {h : Option (Nat × Addr × Er)}
theorem reps1 {H : Hp} {d : D} {xs : List V} (r : Reps S H [d] xs) : ∃ v, xs = [v] ∧ Rep S H d v := by
  obtain ⟨v, ws, rfl, h1, h2⟩ := Reps.cons_iff.mp r
  rw [Reps.nil_iff.mp h2]
  exact ⟨v, rfl, h1⟩
theorem reps2 {H : Hp} {d e : D} {xs : List V} (r : Reps S H [d, e] xs) : ∃ v w, xs = [v, w] ∧ Rep S H d v ∧ Rep S H e w := by
  obtain ⟨v, ws, rfl, h1, h2⟩ := Reps.cons_iff.mp r
  obtain ⟨w, rfl, h3⟩ := reps1 h2
  exact ⟨v, w, rfl, h1, h3⟩
theorem cd_abs : CallD S (fun xs H Q => ∃ i, xs = [.int i] ∧ Q (.int (if i < 0 then -i else i)) H) fAbs n := by
  intro W σ H Hs as xs Q sub r p
  unfold fAbs at p
  split at p
  · obtain ⟨v, rfl, h1⟩ := reps1 r
    unfold Rep at h1
    exact ⟨_, by rw [h1], p _ H Hs [] (Step.refl sub) (Own.scal rfl rep_int)⟩
  · exact p.elim
theorem cd_int : CallD S (fun xs H Q => (∃ i, xs = [.int i] ∧ Q (.int i) H) ∨ ∃ k, xs = [.bl k] ∧ Q (.int (if k then 1 else 0)) H) fInt n := by
  intro W σ H Hs as xs Q sub r p
  unfold fInt at p
  split at p
  · obtain ⟨v, rfl, h1⟩ := reps1 r
    unfold Rep at h1
    exact .inl ⟨_, by rw [h1], p _ H Hs [] (Step.refl sub) (Own.scal rfl rep_int)⟩
  · obtain ⟨v, rfl, h1⟩ := reps1 r
    unfold Rep at h1
    exact .inr ⟨_, by rw [h1], p _ H Hs [] (Step.refl sub) (Own.scal rfl rep_int)⟩
  · exact p.elim
theorem cd_len : CallD (sta X h) (fun xs H Q => ∃ p ys, xs = [.ref p] ∧ (SqL X.K H p ys ∨ SqT X.K H p ys) ∧ Q (.int ys.length) H) fLen n := by
  intro W σ H Hs as xs Q sub r p
  unfold fLen at p
  split at p
  · obtain ⟨v, rfl, h1⟩ := reps1 r
    unfold Rep at h1
    obtain ⟨a, vs, rfl, h2, h3⟩ := h1
    exact ⟨a, vs, rfl, .inl (.inl (rd_sub sub h2)), by rw [h3.length]; exact p _ H Hs [] (Step.refl sub) (Own.scal rfl rep_int)⟩
  · obtain ⟨v, rfl, h1⟩ := reps1 r
    unfold Rep at h1
    obtain ⟨a, vs, rfl, h2, h3⟩ := h1
    exact ⟨a, vs, rfl, .inr (sqt_sub sub h2), by rw [h3.length]; exact p _ H Hs [] (Step.refl sub) (Own.scal rfl rep_int)⟩
  · exact p.elim
theorem cd_max2 : CallD S (fun xs H Q => ∃ i j, xs = [.int i, .int j] ∧ Q (.int (if j > i then j else i)) H) fMax2 n := by
  intro W σ H Hs as xs Q sub r p
  unfold fMax2 at p
  split at p
  · obtain ⟨v, w, rfl, h1, h2⟩ := reps2 r
    unfold Rep at h1 h2
    exact ⟨_, _, by rw [h1, h2], p _ H Hs [] (Step.refl sub) (Own.scal rfl rep_int)⟩
  · exact p.elim
theorem cd_min2 : CallD S (fun xs H Q => ∃ i j, xs = [.int i, .int j] ∧ Q (.int (if j < i then j else i)) H) fMin2 n := by
  intro W σ H Hs as xs Q sub r p
  unfold fMin2 at p
  split at p
  · obtain ⟨v, w, rfl, h1, h2⟩ := reps2 r
    unfold Rep at h1 h2
    exact ⟨_, _, by rw [h1, h2], p _ H Hs [] (Step.refl sub) (Own.scal rfl rep_int)⟩
  · exact p.elim
theorem maxL_spec : ∀ (a : Int) (r : List Int), maxL (a :: r) ∈ a :: r ∧ ∀ y ∈ a :: r, y ≤ maxL (a :: r)
  | a, [] => ⟨by simp [maxL], fun y hy => by simp at hy; simp [maxL, hy]⟩
  | a, b :: r => by
    obtain ⟨h1, h2⟩ := maxL_spec b r
    unfold maxL
    split
    · rename_i hlt
      refine ⟨List.mem_cons_of_mem _ h1, fun y hy => ?_⟩
      rcases List.mem_cons.mp hy with e | hy
      · rw [e]; omega
      · exact h2 y hy
    · rename_i hlt
      refine ⟨List.mem_cons_self, fun y hy => ?_⟩
      rcases List.mem_cons.mp hy with e | hy
      · rw [e]; omega
      · have := h2 y hy; omega
theorem minL_spec : ∀ (a : Int) (r : List Int), minL (a :: r) ∈ a :: r ∧ ∀ y ∈ a :: r, minL (a :: r) ≤ y
  | a, [] => ⟨by simp [minL], fun y hy => by simp at hy; simp [minL, hy]⟩
  | a, b :: r => by
    obtain ⟨h1, h2⟩ := minL_spec b r
    unfold minL
    split
    · rename_i hlt
      refine ⟨List.mem_cons_of_mem _ h1, fun y hy => ?_⟩
      rcases List.mem_cons.mp hy with e | hy
      · rw [e]; omega
      · exact h2 y hy
    · rename_i hlt
      refine ⟨List.mem_cons_self, fun y hy => ?_⟩
      rcases List.mem_cons.mp hy with e | hy
      · rw [e]; omega
      · have := h2 y hy; omega
theorem cd_max : CallD (sta X h) (rMax X.K) fMax n := by
  intro W σ H Hs as xs Q sub r p
  unfold fMax at p
  split at p
  · rename_i ds
    obtain ⟨v, rfl, h1⟩ := reps1 r
    unfold Rep at h1
    obtain ⟨a, vs, rfl, h2, h3⟩ := h1
    split at p
    · rename_i z zs e
      have ev := h3.ints e
      subst ev
      refine ⟨a, z :: zs, rfl, .inl (rd_sub sub h2), by simp, fun m hm hle => ?_⟩
      obtain ⟨q1, q2⟩ := maxL_spec z zs
      have em : m = maxL (z :: zs) := Int.le_antisymm (q2 m hm) (hle _ q1)
      rw [em]
      exact p _ H Hs [] (Step.refl sub) (Own.scal rfl rep_int)
    · exact p.elim
  · exact p.elim
theorem cd_min : CallD (sta X h) (rMin X.K) fMin n := by
  intro W σ H Hs as xs Q sub r p
  unfold fMin at p
  split at p
  · rename_i ds
    obtain ⟨v, rfl, h1⟩ := reps1 r
    unfold Rep at h1
    obtain ⟨a, vs, rfl, h2, h3⟩ := h1
    split at p
    · rename_i z zs e
      have ev := h3.ints e
      subst ev
      refine ⟨a, z :: zs, rfl, .inl (rd_sub sub h2), by simp, fun m hm hle => ?_⟩
      obtain ⟨q1, q2⟩ := minL_spec z zs
      have em : m = minL (z :: zs) := Int.le_antisymm (hle _ q1) (q2 m hm)
      rw [em]
      exact p _ H Hs [] (Step.refl sub) (Own.scal rfl rep_int)
    · exact p.elim
  · exact p.elim
theorem cd_sum : CallD (sta X h) (rSum X.K) fSum n := by
  intro W σ H Hs as xs Q sub r p
  unfold fSum at p
  split at p
  · rename_i ds
    obtain ⟨v, rfl, h1⟩ := reps1 r
    unfold Rep at h1
    obtain ⟨a, vs, rfl, h2, h3⟩ := h1
    split at p
    · rename_i zs e
      have ev := h3.ints e
      subst ev
      exact ⟨a, zs, rfl, .inl (rd_sub sub h2), p _ H Hs [] (Step.refl sub) (Own.scal rfl rep_int)⟩
    · exact p.elim
  · exact p.elim
theorem cd_list : CallD (sta X h) (fun xs H Q => ∃ p ys, xs = [.ref p] ∧ (SqL X.K H p ys ∨ SqT X.K H p ys) ∧ ∀ l, H l = none → Q (.ref l) (upd H l (.lst ys))) fList 1 := by
  intro W σ H Hs as xs Q sub r p
  unfold fList at p
  split at p
  · obtain ⟨v, rfl, h1⟩ := reps1 r
    unfold Rep at h1
    obtain ⟨a, vs, rfl, h2, h3⟩ := h1
    exact ⟨a, vs, rfl, .inl (.inl (rd_sub sub h2)), fun l hl => p _ _ _ _ (Step.newO sub hl) (own_new hl h3)⟩
  · obtain ⟨v, rfl, h1⟩ := reps1 r
    unfold Rep at h1
    obtain ⟨a, vs, rfl, h2, h3⟩ := h1
    exact ⟨a, vs, rfl, .inr (sqt_sub sub h2), fun l hl => p _ _ _ _ (Step.newO sub hl) (own_new hl h3)⟩
  · exact p.elim
theorem cd_tuple : CallD (sta X h) (fun xs H Q => ∃ p ys, xs = [.ref p] ∧ ((SqL X.K H p ys ∧ ∀ l, H l = none → Q (.ref l) (upd H l (.tup ys))) ∨ (SqT X.K H p ys ∧ Q (.ref p) H))) fTuple n := by
  intro W σ H Hs as xs Q sub r p
  unfold fTuple at p
  split at p
  · obtain ⟨v, rfl, h1⟩ := reps1 r
    unfold Rep at h1
    obtain ⟨a, vs, rfl, h2, h3⟩ := h1
    exact ⟨a, vs, rfl, .inl ⟨.inl (rd_sub sub h2), fun l hl => p _ _ _ _ (Step.newS sub hl) (Own.scal rfl (rep_newT sub hl h3))⟩⟩
  · obtain ⟨v, rfl, h1⟩ := reps1 r
    have h1' := h1
    unfold Rep at h1
    obtain ⟨a, vs, rfl, h2, h3⟩ := h1
    exact ⟨a, vs, rfl, .inr ⟨sqt_sub sub h2, p _ H Hs [] (Step.refl sub) (Own.scal rfl h1')⟩⟩
  · exact p.elim
/-! ### items -/
theorem atD_get {xs : List D} {i : Int} {d : D} {H : Hp} {vs : List V} (r : Reps S H xs vs) (e : atD xs i = some d) : ∃ v, atI vs i = some v ∧ Rep S H d v := by
  unfold atD at e
  unfold atI
  obtain ⟨j, e1, e2⟩ := Option.bind_eq_some_iff.mp e
  obtain ⟨v, e3, e4⟩ := r.get e2
  refine ⟨v, ?_, e4⟩
  rw [r.length]
  exact Option.bind_eq_some_iff.mpr ⟨j, e1, e3⟩
theorem od_ix : OpD (sta X h) (rIx X.K) opIx 0 := by
  intro W σ H Hs a b x y Q sub ra rb p
  unfold opIx at p
  split at p
  · split at p
    · rename_i d e
      unfold Rep at ra rb
      obtain ⟨l, vs, rfl, h2, h3⟩ := ra
      obtain ⟨v, e1, e2⟩ := atD_get h3 e
      exact .inl ⟨l, vs, _, v, rfl, rb, .inl (rd_sub sub h2), e1, p _ H Hs [] (Step.refl sub) e2.own⟩
    · exact p.elim
  · split at p
    · rename_i d e
      unfold Rep at ra rb
      obtain ⟨l, vs, rfl, h2, h3⟩ := ra
      obtain ⟨v, e1, e2⟩ := atD_get h3 e
      exact .inr (.inl ⟨l, vs, _, v, rfl, rb, sqt_sub sub h2, e1, p _ H Hs [] (Step.refl sub) e2.own⟩)
    · exact p.elim
  · exact p.elim
end
section
variable {X : Cx} {W : WX} {Γ Γ' : List Nat} {h : Option (Nat × Addr × Er)} {a b c e : Expr} {es rest : List Expr} {ma mb mc : M D} {mas : M (List D)} {qa qb : M Bool} {na nb nc n k : Nat} {pos p : Pos}
theorem e_abs (hm : X.mg "abs" = none) (ha : PA X (e :: es) (tA (sta X h) W Γ mas)) (hg : Gl X "abs" := by rfl) (hs : starEach (e :: es) X.env = (false, eval e X.env) :: starEach es X.env := by rfl) (hpl : (backTo pos (starEach es X.env)).any (·.1) = false := by rfl) :
    PE X (.Call (.Name "abs" p) (e :: es) [] pos) (tE (sta X h) W Γ (dCall fAbs mas) n) := e_blt call_abs cd_abs hg hm bt_abs ha (by decide) (by decide) hs hpl
theorem e_len (hm : X.mg "len" = none) (ha : PA X (e :: es) (tA (sta X h) W Γ mas)) (hg : Gl X "len" := by rfl) (hs : starEach (e :: es) X.env = (false, eval e X.env) :: starEach es X.env := by rfl) (hpl : (backTo pos (starEach es X.env)).any (·.1) = false := by rfl) :
    PE X (.Call (.Name "len" p) (e :: es) [] pos) (tE (sta X h) W Γ (dCall fLen mas) n) := e_blt call_len_seq cd_len hg hm bt_len ha (by decide) (by decide) hs hpl
theorem e_int' (hm : X.mg "int" = none) (ha : PA X (e :: es) (tA (sta X h) W Γ mas)) (hg : Gl X "int" := by rfl) (hs : starEach (e :: es) X.env = (false, eval e X.env) :: starEach es X.env := by rfl) (hpl : (backTo pos (starEach es X.env)).any (·.1) = false := by rfl) :
    PE X (.Call (.Name "int" p) (e :: es) [] pos) (tE (sta X h) W Γ (dCall fInt mas) n) := e_ty call_int1 cd_int hg hm bt_int ha (by decide) (by decide) hs hpl
theorem e_max2 (hm : X.mg "max" = none) (ha : PA X (e :: es) (tA (sta X h) W Γ mas)) (hc : X.calm = true := by rfl) (hg : Gl X "max" := by rfl) (hs : starEach (e :: es) X.env = (false, eval e X.env) :: starEach es X.env := by rfl) (hpl : (backTo pos (starEach es X.env)).any (·.1) = false := by rfl) :
    PE X (.Call (.Name "max" p) (e :: es) [] pos) (tE (sta X h) W Γ (dCall fMax2 mas) n) := e_blt (call_max2 hc) cd_max2 hg hm bt_max ha (by decide) (by decide) hs hpl
theorem e_min2 (hm : X.mg "min" = none) (ha : PA X (e :: es) (tA (sta X h) W Γ mas)) (hc : X.calm = true := by rfl) (hg : Gl X "min" := by rfl) (hs : starEach (e :: es) X.env = (false, eval e X.env) :: starEach es X.env := by rfl) (hpl : (backTo pos (starEach es X.env)).any (·.1) = false := by rfl) :
    PE X (.Call (.Name "min" p) (e :: es) [] pos) (tE (sta X h) W Γ (dCall fMin2 mas) n) := e_blt (call_min2 hc) cd_min2 hg hm bt_min ha (by decide) (by decide) hs hpl
theorem e_max (hm : X.mg "max" = none) (ha : PA X (e :: es) (tA (sta X h) W Γ mas)) (hc : X.calm = true := by rfl) (hg : Gl X "max" := by rfl) (hs : starEach (e :: es) X.env = (false, eval e X.env) :: starEach es X.env := by rfl) (hpl : (backTo pos (starEach es X.env)).any (·.1) = false := by rfl) :
    PE X (.Call (.Name "max" p) (e :: es) [] pos) (tE (sta X h) W Γ (dCall fMax mas) n) := e_blt (cr_max hc) cd_max hg hm bt_max ha (by decide) (by decide) hs hpl
theorem e_min (hm : X.mg "min" = none) (ha : PA X (e :: es) (tA (sta X h) W Γ mas)) (hc : X.calm = true := by rfl) (hg : Gl X "min" := by rfl) (hs : starEach (e :: es) X.env = (false, eval e X.env) :: starEach es X.env := by rfl) (hpl : (backTo pos (starEach es X.env)).any (·.1) = false := by rfl) :
    PE X (.Call (.Name "min" p) (e :: es) [] pos) (tE (sta X h) W Γ (dCall fMin mas) n) := e_blt (cr_min hc) cd_min hg hm bt_min ha (by decide) (by decide) hs hpl
theorem e_sum (hm : X.mg "sum" = none) (ha : PA X (e :: es) (tA (sta X h) W Γ mas)) (hc : X.calm = true := by rfl) (hg : Gl X "sum" := by rfl) (hs : starEach (e :: es) X.env = (false, eval e X.env) :: starEach es X.env := by rfl) (hpl : (backTo pos (starEach es X.env)).any (·.1) = false := by rfl) :
    PE X (.Call (.Name "sum" p) (e :: es) [] pos) (tE (sta X h) W Γ (dCall fSum mas) n) := e_blt (cr_sum hc) cd_sum hg hm bt_sum ha (by decide) (by decide) hs hpl
theorem e_list (hm : X.mg "list" = none) (ha : PA X (e :: es) (tA (sta X h) W Γ mas)) (hg : Gl X "list" := by rfl) (hs : starEach (e :: es) X.env = (false, eval e X.env) :: starEach es X.env := by rfl) (hpl : (backTo pos (starEach es X.env)).any (·.1) = false := by rfl) :
    PE X (.Call (.Name "list" p) (e :: es) [] pos) (tE (sta X h) W Γ (dCall fList mas) 1) := e_ty call_list_of cd_list hg hm bt_list ha (by decide) (by decide) hs hpl
theorem e_tuple (hm : X.mg "tuple" = none) (ha : PA X (e :: es) (tA (sta X h) W Γ mas)) (hg : Gl X "tuple" := by rfl) (hs : starEach (e :: es) X.env = (false, eval e X.env) :: starEach es X.env := by rfl) (hpl : (backTo pos (starEach es X.env)).any (·.1) = false := by rfl) :
    PE X (.Call (.Name "tuple" p) (e :: es) [] pos) (tE (sta X h) W Γ (dCall fTuple mas) n) := e_ty call_tuple_of cd_tuple hg hm bt_tuple ha (by decide) (by decide) hs hpl
theorem e_ix (ha : PE X a (tE (sta X h) W Γ ma na)) (hb : PE X b (tE (sta X h) W Γ mb nb)) (hs : PlainIx b := by intro _ _; rfl) : PE X (.Subscript a b pos) (tE (sta X h) W Γ (dOp2 opIx ma mb) 0) := impE (pe_ix ix_seq ha hb hs) fun σ H Q w => op2_of od_ix w
/-! ### isinstance of a built-in type -/
theorem isTy_kit {K : PySem.W.Frag} {T : String} {d : D} {bb : Bool} {H : Hp} {v : V} {S : Sta} (hK : S.K = K) (r : Rep S H d v) (e : isTy T d = some bb) : ∃ t, TyX K H v t ∧ PySem.W.kitOne K t (.type T) = some bb := by
  have g : ∀ {A : String}, kitB A T = some bb → PySem.W.kitOne K (.type A) (.type T) = some bb := fun h => kit_ty h
  have sq : ∀ {a : Addr} {us : List V}, SqT K H a us → ∃ t, TyX K H (.ref a) t ∧ t = .type "tuple" := fun {a us} hh => by
    rcases hh with (e | ⟨o, e⟩) | ⟨o, its, m, e, c, _⟩
    · exact ⟨_, .base (.tup e), rfl⟩
    · exact ⟨_, .fTuple e, rfl⟩
    · exact ⟨_, .kTuple e c, rfl⟩
  cases d with
  | non =>
    unfold Rep at r
    subst r
    refine ⟨_, .base .non, g ?_⟩
    dsimp only [isTy] at e
    split at e
    · rename_i hT
      cases e
      rcases hT with rfl | rfl | rfl | rfl | rfl <;> decide +kernel
    · cases e
  | bl x =>
    unfold Rep at r
    subst r
    refine ⟨_, .base (.bl x), g ?_⟩
    dsimp only [isTy] at e
    split at e
    · rename_i hT
      cases e
      rcases hT with rfl | rfl <;> decide +kernel
    · split at e
      · rename_i hT
        cases e
        rcases hT with rfl | rfl | rfl <;> decide +kernel
      · cases e
  | int x =>
    unfold Rep at r
    subst r
    refine ⟨_, .base (.int x), g ?_⟩
    dsimp only [isTy] at e
    split at e
    · rename_i hT
      cases e
      subst hT
      decide +kernel
    · split at e
      · rename_i hT
        cases e
        rcases hT with rfl | rfl | rfl | rfl <;> decide +kernel
      · cases e
  | str x =>
    unfold Rep at r
    subst r
    refine ⟨_, .base (.str x), g ?_⟩
    dsimp only [isTy] at e
    split at e
    · rename_i hT
      cases e
      subst hT
      decide +kernel
    · split at e
      · rename_i hT
        cases e
        rcases hT with rfl | rfl | rfl | rfl <;> decide +kernel
      · cases e
  | lst xs =>
    unfold Rep at r
    obtain ⟨l, vs, rfl, h2, h3⟩ := r
    have ty : TyX K H (.ref l) (.type "list") := by
      rcases h2 with e | ⟨o, e⟩
      · exact .base (.lst e)
      · exact .base (.frz e)
    refine ⟨_, ty, g ?_⟩
    dsimp only [isTy] at e
    split at e
    · rename_i hT
      cases e
      subst hT
      decide +kernel
    · split at e
      · rename_i hT
        cases e
        rcases hT with rfl | rfl | rfl | rfl <;> decide +kernel
      · cases e
  | tup xs =>
    unfold Rep at r
    obtain ⟨l, vs, rfl, h2, h3⟩ := r
    rw [hK] at h2
    obtain ⟨t, ty, rfl⟩ := sq h2
    refine ⟨_, ty, g ?_⟩
    dsimp only [isTy] at e
    split at e
    · rename_i hT
      cases e
      subst hT
      decide +kernel
    · split at e
      · rename_i hT
        cases e
        rcases hT with rfl | rfl | rfl | rfl <;> decide +kernel
      · cases e
  | byt x => cases e
  | ins x y => cases e
theorem e_isTy {T : String} {x : Str} {p2 : Pos} (hm : X.mg "isinstance" = none) (hmT : X.mg x = none) (hv : bootBuiltins x = some (.type T)) (ha : PE X a (tE (sta X h) W Γ ma na)) (hg : Gl X "isinstance" := by rfl) (hgT : Gl X x := by rfl)
    (hn : x ≠ "__name__" := by decide) (hd : (x == ("__debug__" : Str)) = false := by decide)
    (hs : starEach [a, .Name x p2] X.env = (false, eval a X.env) :: starEach [.Name x p2] X.env := by rfl) (hs2 : starEach [.Name x p2] X.env = (false, eval (.Name x p2) X.env) :: starEach [] X.env := by rfl) (hpl : (backTo pos (starEach [.Name x p2] X.env)).any (·.1) = false := by rfl) :
    PE X (.Call (.Name "isinstance" p) [a, .Name x p2] [] pos) (tE (sta X h) W Γ (dOp1 (opIsTy T) ma) n) :=
  impE (pe_callB call_isi hg hm bt_isi (pa_cons ha (pa_cons (pe_bltn (v := .ty T) hgT hmT hv rfl hn hd) pa_nil hs2) hs) (by decide) (by decide) hs hpl) fun σ H Q w => by
    obtain ⟨H0, G0, Hs, F, η, ok, p⟩ := w
    refine tE.use ok ((Post.bind p).imp fun d pd v H' Hs' st rd ok' => ?_)
    unfold opIsTy at pd
    split at pd
    · rename_i bb e
      obtain ⟨t, ty, kk⟩ := isTy_kit (K := X.K) rfl (rd.same ok'.sub) e
      exact ⟨v, .ty T, t, .type T, bb, rfl, .ty T, ty, kk, pd _ H' Hs' [] st (Own.scal rfl rep_bl)⟩
    · exact pd.elim
/-! ### what is owned is looked at -/
theorem own_at {S : Sta} {H0 G0 H Hs : Hp} {F : Nat → List Addr} {σ : L2.St} {η : Env} {m : Nat} {xs : List D} (ok : EOk S H0 G0 H Hs Γ F σ η) (hg : Γ.getD k 0 = m + 1) (e : η[k]? = some (some (.lst xs))) : ∃ (l : Addr) (vs : List V) (G : List Addr), σ[k]? = some (some (.ref l)) ∧ F k = l :: G ∧ H l = some (.lst vs) ∧ Owns S H Hs xs m vs G := by
  obtain ⟨v, h1, h2⟩ := ok.slot k _ e
  rw [hg] at h2
  obtain ⟨l, vs, G, rfl, h3, h4, h5⟩ := Own.succ.mp h2
  exact ⟨l, vs, G, h1, h3, h4, h5⟩
def lenAt (k : Nat) : M D := fun η => (lstAt η k).bind fun xs => .ok (.int xs.length)
theorem lstAt_ok {S : Sta} {σ : L2.St} {H : Hp} {η : Env} {k' : List D → Prop} (p : Post S W σ H (lstAt η k) k') : ∃ xs, η[k]? = some (some (.lst xs)) ∧ k' xs := by
  unfold lstAt at p
  split at p
  · rename_i xs e
    exact ⟨xs, e, p⟩
  · exact p.elim
theorem e_lenO {x : Str} {p2 : Pos} (k : Nat) {m : Nat} (hm : X.mg "len" = none) (hG : Γ.getD k 0 = m + 1 := by rfl) (hN : X.N[k]? = some x := by rfl) (hv : Vis X.env.scope x := by first | exact Or.inl rfl | exact Or.inr (Or.inl rfl) | exact Or.inr (Or.inr rfl)) (hd : (x == ("__debug__" : Str)) = false := by decide)
    (hcd : (x == ("__classdict__" : Str)) = false := by decide) (hg : Gl X "len" := by rfl) (hs : starEach [.Name x p2] X.env = (false, eval (.Name x p2) X.env) :: starEach [] X.env := by rfl) (hpl : (backTo pos (starEach [] X.env)).any (·.1) = false := by rfl) :
    PE X (.Call (.Name "len" p) [.Name x p2] [] pos) (tE (sta X h) W Γ (lenAt k) n) :=
  impE (pe_callB call_len_seq hg hm bt_len (pa_cons (pe_var hN hv hd hcd) pa_nil hs) (by decide) (by decide) hs hpl) fun σ H Q w => by
    obtain ⟨H0, G0, Hs, F, η, ok, p⟩ := w
    obtain ⟨xs, e, px⟩ := lstAt_ok (Post.bind p)
    obtain ⟨l, vs, G, h1, h2, h3, h4⟩ := own_at ok hG e
    exact ⟨.ref l, h1, l, vs, rfl, .inl (SqL.of h3), by rw [h4.length]; exact px _ H Hs [] (Step.refl ok.sub) (Own.scal rfl rep_int)⟩
def ixL (xs : List D) : D → Res D
  | .int i => (match atD xs i with | some d => .ok d | none => .stuck)
  | _ => .stuck
def ixAt (k : Nat) (b : M D) : M D := fun η => (lstAt η k).bind fun xs => (b η).bind fun y => ixL xs y
theorem e_ixO {x : Str} {p2 : Pos} (k : Nat) (hb : PE X b (tE (sta X h) W Γ mb nb)) (hG : Γ.getD k 0 = 1 := by rfl) (hN : X.N[k]? = some x := by rfl) (hv : Vis X.env.scope x := by first | exact Or.inl rfl | exact Or.inr (Or.inl rfl) | exact Or.inr (Or.inr rfl)) (hd : (x == ("__debug__" : Str)) = false := by decide)
    (hcd : (x == ("__classdict__" : Str)) = false := by decide) (hs : PlainIx b := by intro _ _; rfl) : PE X (.Subscript (.Name x p2) b pos) (tE (sta X h) W Γ (ixAt k mb) 0) := impE (pe_ix ix_list (pe_var hN hv hd hcd) hb hs) fun σ H Q w => by
  obtain ⟨H0, G0, Hs, F, η, ok, p⟩ := w
  obtain ⟨xs, e, px⟩ := lstAt_ok (Post.bind p)
  obtain ⟨l, vs, G, h1, h2, h3, h4⟩ := own_at ok hG e
  refine ⟨.ref l, h1, tE.use ok ((Post.bind px).imp fun y py u H' Hs' st ru ok' => ?_)⟩
  unfold ixL at py
  split at py
  · rename_i i
    split at py
    · rename_i d e2
      unfold Rep at ru
      obtain ⟨-, r4⟩ := h4.reps
      obtain ⟨v, e1, e3⟩ := atD_get (r4.same st.shr) e2
      exact ⟨l, vs, i, v, rfl, ru, SqL.of (st.all _ _ h3), e1, py v H' Hs' [] st e3.own⟩
    · exact py.elim
  · exact py.elim
/-- borrowed: the slots that p does not keep are shared while e runs; e's value is none, a bool, an int, a text -/
def keepG (Γ : List Nat) (p : Nat → Bool) : List Nat := (List.range Γ.length).map fun i => if p i then Γ.getD i 0 else 0
def scalD : D → Bool
  | .non => true
  | .bl _ => true
  | .int _ => true
  | .str _ => true
  | _ => false
def scalM (m : M D) : M D := fun η => (m η).bind fun d => if scalD d then .ok d else .stuck
theorem scal_rep {S : Sta} {H H' : Hp} {d : D} {v : V} (hd : scalD d = true) (r : Rep S H d v) : Rep S H' d v := by
  cases d <;> first | (simp [scalD] at hd; done) | (unfold Rep at r ⊢; exact r)
theorem e_bor (p : Nat → Bool) (ha : PE X e (tE (sta X h) W (keepG Γ p) ma na)) : PE X e (tE (sta X h) W Γ (scalM ma) n) := impE ha fun σ H Q w => by
  obtain ⟨H0, G0, Hs, F, η, ok, pp⟩ := w
  obtain ⟨Hs1, F1, ok1, sm, _⟩ := ok.froz p
  refine tE.use (n := na) ok1 ((Post.bind pp).imp fun d pd v H' Hs' st rd ok' => ?_)
  split at pd
  · rename_i hd
    exact pd v H' Hs [] ⟨st.all, Same.refl _, ok.sub.trans st.all, fun a h1 _ => h1, fun _ z => absurd z List.not_mem_nil, List.nodup_nil⟩ (Own.scal (by cases d <;> first | rfl | (simp [scalD] at hd)) (scal_rep hd rd))
  · exact pd.elim
theorem q_bor (p : Nat → Bool) (ha : PT X e (tQ (sta X h) W (keepG Γ p) qa)) : PT X e (tQ (sta X h) W Γ qa) := impT ha fun σ H Q w => by
  obtain ⟨H0, G0, Hs, F, η, ok, pp⟩ := w
  obtain ⟨Hs1, F1, ok1, sm, _⟩ := ok.froz p
  exact tQ.use ok1 (pp.imp fun b pd H' Hs' st ok' => pd H' Hs ⟨st.all, Same.refl _, ok.sub.trans st.all, fun a h1 _ => h1, fun _ z => absurd z List.not_mem_nil, List.nodup_nil⟩)
/-! ### slices -/
theorem p_none : PO X none (tP (sta X h) W Γ oNone) := impO po_none fun σ H Q w => by
  obtain ⟨H0, G0, Hs, F, η, ok, p⟩ := w
  exact p H Hs (Step.refl ok.sub)
theorem p_some (ha : PE X e (tE (sta X h) W Γ ma na)) : PO X (some e) (tP (sta X h) W Γ (oSome ma)) := impO (po_some ha) fun σ H Q w => by
  obtain ⟨H0, G0, Hs, F, η, ok, p⟩ := w
  refine tE.use ok ((Post.bind p).imp fun d pd v H' Hs' st rd ok' => ?_)
  unfold toI at pd
  split at pd
  · rename_i i
    unfold Rep at rd
    exact ⟨i, rd, pd H' Hs' st⟩
  · exact pd.elim
def opSlL (x : D) (lo hi : Option Int) : Res D := match x with
  | .lst xs => .ok (.lst (cutD xs lo hi))
  | _ => .stuck
def dSlL (a : M D) (lo hi : M (Option Int)) : M D := fun η => (a η).bind fun x => (lo η).bind fun l => (hi η).bind fun h => opSlL x l h
theorem slIx_eq (n d : Nat) (o : Option Int) : slIx n d o = HT.sIx n d o := by cases o <;> rfl
theorem cut_reps {S : Sta} {H : Hp} {ds : List D} {vs : List V} (r : Reps S H ds vs) (lo hi : Option Int) : Reps S H (cutD ds lo hi) (cutV vs lo hi) := by
  unfold cutD cutV
  rw [slIx_eq, slIx_eq, r.length]
  exact (r.drop _).take _
theorem e_slL {lo hi : Option Expr} {p2 : Pos} {ml mh : M (Option Int)} (ha : PE X a (tE (sta X h) W Γ ma na)) (hl : PO X lo (tP (sta X h) W Γ ml)) (hh : PO X hi (tP (sta X h) W Γ mh)) : PE X (.Subscript a (.Slice lo hi none p2) pos) (tE (sta X h) W Γ (dSlL ma ml mh) 1) :=
  impE (pe_slice sl_list ha hl hh) fun σ H Q w => by
    obtain ⟨H0, G0, Hs, F, η, ok, p⟩ := w
    refine tE.use ok ((Post.bind p).imp fun d pd v H1 Hs1 st1 rd ok1 => ?_)
    refine tP.use ok1 (((Post.bind pd).up st1.all).imp fun l pl H2 Hs2 st2 ok2 => ?_)
    refine tP.use ok2 (((Post.bind pl).up (st1.all.trans st2.all)).imp fun u pu H3 Hs3 st3 ok3 => ?_)
    unfold opSlL at pu
    split at pu
    · rename_i ds
      unfold Rep at rd
      obtain ⟨a, vs, rfl, r1, r2⟩ := rd
      have st := (st1.trans st2).trans st3
      have r2' := r2.same (st2.trans st3).shr
      refine ⟨a, vs, rfl, .inl (rd_sub ((st2.trans st3).shr.trans ok3.sub) r1), fun q hq => ?_⟩
      exact pu _ _ _ _ (st.trans (Step.newO ok3.sub hq)) (own_new hq (cut_reps r2' l u))
    · exact pu.elim
def opSlT (x : D) (lo hi : Option Int) : Res D := match x with
  | .tup xs => if slIx xs.length 0 lo = 0 ∧ slIx xs.length xs.length hi = xs.length then .stuck else .ok (.tup (cutD xs lo hi))
  | _ => .stuck
def dSlT (a : M D) (lo hi : M (Option Int)) : M D := fun η => (a η).bind fun x => (lo η).bind fun l => (hi η).bind fun h => opSlT x l h
theorem e_slT {lo hi : Option Expr} {p2 : Pos} {ml mh : M (Option Int)} (ha : PE X a (tE (sta X h) W Γ ma na)) (hl : PO X lo (tP (sta X h) W Γ ml)) (hh : PO X hi (tP (sta X h) W Γ mh)) : PE X (.Subscript a (.Slice lo hi none p2) pos) (tE (sta X h) W Γ (dSlT ma ml mh) n) :=
  impE (pe_slice sl_tup ha hl hh) fun σ H Q w => by
    obtain ⟨H0, G0, Hs, F, η, ok, p⟩ := w
    refine tE.use ok ((Post.bind p).imp fun d pd v H1 Hs1 st1 rd ok1 => ?_)
    refine tP.use ok1 (((Post.bind pd).up st1.all).imp fun l pl H2 Hs2 st2 ok2 => ?_)
    refine tP.use ok2 (((Post.bind pl).up (st1.all.trans st2.all)).imp fun u pu H3 Hs3 st3 ok3 => ?_)
    unfold opSlT at pu
    split at pu
    · rename_i ds
      split at pu
      · exact pu.elim
      · rename_i hw
        unfold Rep at rd
        obtain ⟨a, vs, rfl, r1, r2⟩ := rd
        have st := (st1.trans st2).trans st3
        have r2' := r2.same (st2.trans st3).shr
        refine ⟨a, vs, rfl, sqt_sub ((st2.trans st3).shr.trans ok3.sub) r1, ?_, fun q hq => ?_⟩
        · rw [← slIx_eq, ← slIx_eq, r2.length]; exact hw
        · exact pu _ _ _ [] (st.trans (Step.newS ok3.sub hq)) (Own.scal rfl (rep_newT ok3.sub hq (cut_reps r2' l u)))
    · exact pu.elim
end
end VL
/-! VLExpr4: defs called; what is walked, what is bound, comprehensions. -/
namespace VL
open PySem PySem.Spec L2
/-! ### defs -/
/-- the def's promise: it does what f says; its result is new to the depth n -/
def spF (S : Sta) (ar : Nat) (f : List D → Res D) (n : Nat) : Sp := fun vs H Q E => ∃ (ds : List D) (Hs : Hp), ds.length = ar ∧ Same Hs H ∧ Reps S Hs ds vs ∧
  Post S (fun cls d _ H' => E cls d H') [] H (f ds) fun d => ∀ (v : V) (H' Hs' : Hp) (Fr : List Addr), Step H Hs H' Hs' Fr → Own S H' Hs' d n v Fr → Q v H'
structure FnS (P : Program) (w : World) (K : PySem.W.Frag) (mg : Str → Option Value) (base : Heap) (x : Str) (k ar : Nat) (f : List D → Res D) (n : Nat) (dfl : List D) : Prop where
  ex : ∃ (fA : Addr) (fd : FuncData) (ps : List Str) (ds : List Value) (dvs : List V), mg x = some (.ref fA) ∧ PySem.W.keepIn K (.ref fA) = true ∧
    FnOk P w K mg base (L2.CX P w) k fA fd ps (spF ⟨K, mg, none⟩ ar f n) ∧ Vals dvs ds ∧ (∀ H, Reps ⟨K, mg, none⟩ H dfl dvs) ∧ Binds K fd ps ds
section
variable {X : Cx} {W : WX} {Γ : List Nat} {e : Expr} {es : List Expr} {mas : M (List D)} {n k ar : Nat} {pos p : Pos} {x : Str} {f : List D → Res D} {dfl : List D}
theorem post_swap {α : Type} {S : Sta} {W W' : WX} {σ σ' : L2.St} {H H1 : Hp} {r : Res α} {k k' : α → Prop} (h : Post S W σ H r k) (s : Same H H1) (e : ∀ cls d H', W cls d σ H' → W' cls d σ' H') (i : ∀ a, k a → k' a) : Post S W' σ' H1 r k' := by
  cases r with
  | ok a => exact i a h
  | exc er => exact fun cls d H' c s' => e cls d H' (h cls d H' c (s.trans s'))
  | stuck => exact h
theorem run_S {CX : CXT} {fA : Addr} {fd : FuncData} {ps : List Str} {sp : Sp} {E : L2.St → XK} {dvs : List V} {ds : List Value} {pins : List (Addr × Obj)} {σ : L2.St} {H : Hp} {s : Shared} {Q : VK} {us : List Value} {vs : List V} (F : FnOk X.prog X.w X.K X.mg X.base CX k fA fd ps sp) (hr : Room k X.A) (hb : Binds X.K fd ps ds) (hd : Vals dvs ds) (hx : PassesAt CX X σ (E σ))
    (I : Inv X pins σ H s) (r : Vals vs us) (h : sp (vs ++ dvs) H Q (E σ)) : wpAny (model X.prog X.w) X.A (call (.ref fA) us) (EP X pins σ Q) X.xe s := by
  have r2 : Vals (vs ++ dvs) (us ++ ds) := r.append hd
  have hl : (us ++ ds).length = ps.length := by rw [← r2.length]; exact F.len _ _ _ _ h
  refine wpAny_call (codeAny_mono (F.run X.A X.stack s H ⟨us, []⟩ (us ++ ds) (vs ++ dvs) Q (E σ) hr I.env0 (hb s us I.kIn hl) r2 h) fun r s' hq => ?_)
  cases r with
  | error e => exact hx pins H s e s' I hq
  | ok fl =>
    cases fl with
    | ret u => exact I.after hq
    | next => exact False.elim hq
    | brk => exact False.elim hq
    | cont => exact False.elim hq
theorem e_call (F : FnS X.prog X.w X.K X.mg X.base x k ar f n dfl) (hr : Room k X.A) (tk : Takes X W) (ha : PA X (e :: es) (tA (sta X none) W Γ mas)) (hlen : es.length + 1 + dfl.length = ar := by rfl) (hml : ∀ η ds, mas η = .ok ds → ds.length = es.length + 1) (hg : Gl X x := by rfl) (hdb : (x == ("__debug__" : Str)) = false := by decide)
    (he : starEach (e :: es) X.env = (false, eval e X.env) :: starEach es X.env := by rfl) (hpl : (backTo pos (starEach es X.env)).any (·.1) = false := by rfl) :
    PE X (.Call (.Name x p) (e :: es) [] pos) (tE (sta X none) W Γ (dCall (fun as => f (as ++ dfl)) mas) n) := by
  obtain ⟨fA, fd, ps, ds, dvs, hm, hk, G, hd, hrep, hb⟩ := F.ex
  refine ⟨fun pins s σ H Q I w => ?_⟩
  obtain ⟨H0, G0, Hs, F, η, ok, pp⟩ := w
  refine wpAny_Call_Name_kw (ld_glob I hg hm ?_ hdb)
  have w : tA (sta X none) W Γ mas σ H fun vs H1 => spF ⟨X.K, X.mg, none⟩ ar f n (vs ++ dvs) H1 Q (WE W σ) := by
    cases hη : mas η with
    | ok as =>
      have hl := hml η as hη
      refine tA.use ok ?_
      have pb := Post.bind pp
      rw [hη] at pb ⊢
      refine fun vs H1 Hs1 st1 r1 ok1 => ⟨as ++ dfl, Hs1, by rw [List.length_append, hl]; exact hlen, ok1.sub, r1.append (hrep _), ?_⟩
      exact post_swap pb st1.all (fun cls d H' q => q) fun d kk v H' Hs' Fr st o => kk v H' Hs' Fr (st1.trans st) o
    | exc er =>
      refine tA.use ok ?_
      have pb := Post.bind pp
      rw [hη] at pb ⊢
      exact pb
    | stuck =>
      have pb := Post.bind pp
      rw [hη] at pb
      exact pb.elim
  refine PySem.W.callWith_K (h₀ := X.base) I.ok.mod.kin hk (thn (ha.run pos pins s σ H _ I w) fun us s1 ⟨vs, H1, I1, r, q⟩ => ⟨I1.kIn, ?_⟩) he hpl
  exact run_S G hr hb hd (passAt tk σ) I1 r q
end
/-- lengths of written argument lists -/
theorem al_nil : ∀ (η : Env) (ds : List D), aNil η = .ok ds → ds.length = 0 := fun η ds h => by cases h; rfl
theorem al_cons {a : M D} {r : M (List D)} {k : Nat} (h : ∀ (η : Env) (ds : List D), r η = .ok ds → ds.length = k) : ∀ (η : Env) (ds : List D), aCons a r η = .ok ds → ds.length = k + 1 := fun η ds e => by
  unfold aCons at e
  cases ha : a η with
  | ok x =>
    rw [ha] at e
    cases hr : r η with
    | ok xs =>
      rw [hr] at e
      cases e
      rw [List.length_cons, h η xs hr]
    | exc er => rw [hr] at e; cases e
    | stuck => rw [hr] at e; cases e
  | exc er => rw [ha] at e; cases e
  | stuck => rw [ha] at e; cases e

/-! ### what is walked -/
def Walks (S : Sta) (Hs : Hp) (J : It) (ds : List D) : Prop := ∀ (i : Nat) (H' Hs' : Hp), Same Hs Hs' → Same Hs' H' →
  (∀ d, ds[i]? = some d → J.go i H' ∧ ∀ x H'', J.yld i H' x H'' → ∃ Hs'', Step H' Hs' H'' Hs'' [] ∧ Rep S Hs'' d x) ∧ (ds[i]? = none → J.stop i H')
def tI (S : Sta) (W : WX) (Γ : List Nat) (m : M (List D)) : TI := fun σ H R => ∃ (H0 G0 Hs : Hp) (F : Nat → List Addr) (η : Env), EOk S H0 G0 H Hs Γ F σ η ∧
  Post S W σ H (m η) fun ds => ∀ (J : It) (H' Hs' : Hp), Step H Hs H' Hs' [] → Walks S Hs' J ds → R J H'
section
variable {X : Cx} {W : WX} {Γ : List Nat} {h : Option (Nat × Addr × Er)} {a b tg : Expr} {ma mb : M D} {na nb : Nat} {pos p : Pos}
theorem orI {l : Expr} {w1 w2 : TI} (h1 : PI X tg l w1) (h2 : PI X tg l w2) : PI X tg l (fun σ H R => w1 σ H R ∨ w2 σ H R) := ⟨fun pins s σ H R I h => by
  rcases h with h | h
  · exact h1.run pins s σ H R I h
  · exact h2.run pins s σ H R I h⟩
theorem impI {l : Expr} {t t' : TI} (h : PI X tg l t) (i : ∀ σ H R, t' σ H R → t σ H R) : PI X tg l t' := ⟨fun pins s σ H R I w => h.run pins s σ H R I (i σ H R w)⟩
theorem walks_list {S : Sta} {Hs : Hp} {l : Addr} {vs : List V} {ds : List D} (hl : Rd Hs l (.lst vs)) (r : Reps S Hs ds vs) : Walks S Hs (Itl S.K l) ds := fun i H' Hs' s1 s2 => by
  have q : SqL S.K H' l vs := .inl (rd_sub (s1.trans s2) hl)
  refine ⟨fun d hd => ?_, fun hn => ⟨vs, q, by rw [r.length]; exact List.getElem?_eq_none_iff.mp hn⟩⟩
  obtain ⟨v, h1, h2⟩ := r.get hd
  refine ⟨⟨vs, v, q, h1⟩, fun x H'' y => ?_⟩
  obtain ⟨rfl, y⟩ := y
  have e := y vs q
  rw [h1] at e
  cases e
  exact ⟨Hs', Step.refl s2, h2.same s1⟩
theorem walks_tup {S : Sta} {Hs : Hp} {l : Addr} {vs : List V} {ds : List D} (hl : SqT S.K Hs l vs) (r : Reps S Hs ds vs) : Walks S Hs (Itt S.K l) ds := fun i H' Hs' s1 s2 => by
  have q : SqT S.K H' l vs := sqt_sub (s1.trans s2) hl
  refine ⟨fun d hd => ?_, fun hn => ⟨vs, q, by rw [r.length]; exact List.getElem?_eq_none_iff.mp hn⟩⟩
  obtain ⟨v, h1, h2⟩ := r.get hd
  refine ⟨⟨vs, v, q, h1⟩, fun x H'' y => ?_⟩
  obtain ⟨rfl, y⟩ := y
  have e := y vs q
  rw [h1] at e
  cases e
  exact ⟨Hs', Step.refl s2, h2.same s1⟩
theorem walks_range {S : Sta} {Hs : Hp} {lo : Int} {n : Nat} : Walks S Hs (Itr lo n) (rangeD lo n) := fun i H' Hs' s1 s2 => by
  have e : (rangeD lo n)[i]? = if i < n then some (D.int (lo + (i : Int))) else none := by
    unfold rangeD
    by_cases hi : i < n
    · rw [if_pos hi]; simp [hi]
    · rw [if_neg hi]; simp; omega
  refine ⟨fun d hd => ?_, fun hn => ?_⟩
  · rw [e] at hd
    by_cases hi : i < n
    · rw [if_pos hi] at hd
      cases hd
      refine ⟨hi, fun x H'' y => ?_⟩
      obtain ⟨rfl, rfl⟩ := y
      exact ⟨Hs', Step.refl s2, rep_int⟩
    · rw [if_neg hi] at hd; cases hd
  · rw [e] at hn
    by_cases hi : i < n
    · rw [if_pos hi] at hn; cases hn
    · exact Nat.le_of_not_lt hi
theorem i_seq (ha : PE X a (tE (sta X h) W Γ ma na)) : PI X tg a (tI (sta X h) W Γ (iSeq ma)) := impI (orI (pi_list ha) (pi_tup ha)) fun σ H R w => by
  obtain ⟨H0, G0, Hs, F, η, ok, p⟩ := w
  have pb := Post.bind p
  cases hη : ma η with
  | ok d =>
    rw [hη] at pb
    have pb' : Post (sta X h) W σ H (items d) _ := pb
    unfold items at pb'
    split at pb'
    · rename_i ds
      refine .inl (tE.use ok ?_)
      rw [hη]
      refine fun v H' Hs' st rd ok' => ?_
      unfold Rep at rd
      obtain ⟨l, vs, rfl, r1, r2⟩ := rd
      exact ⟨l, rfl, ⟨vs, .inl (rd_sub ok'.sub r1)⟩, pb' (Itl X.K l) H' Hs' st (walks_list r1 r2)⟩
    · rename_i ds
      refine .inr (tE.use ok ?_)
      rw [hη]
      refine fun v H' Hs' st rd ok' => ?_
      unfold Rep at rd
      obtain ⟨l, vs, rfl, r1, r2⟩ := rd
      exact ⟨l, rfl, ⟨vs, sqt_sub ok'.sub r1⟩, pb' (Itt X.K l) H' Hs' st (walks_tup r1 r2)⟩
    · exact pb'.elim
  | exc er =>
    rw [hη] at pb
    refine .inl (tE.use ok ?_)
    rw [hη]
    exact pb
  | stuck =>
    rw [hη] at pb
    exact pb.elim
theorem lim_eq : lim62 = 2 ^ 62 := by decide
theorem i_range1 (hm : X.mg "range" = none) (ha : PE X a (tE (sta X h) W Γ ma na)) (hg : Gl X "range" := by rfl) (hs : starEach [a] X.env = [(false, eval a X.env)] := by rfl) : PI X tg (.Call (.Name "range" p) [a] [] pos) (tI (sta X h) W Γ (iRange1 ma)) := impI (pi_range1 hg hm (pa_cons ha pa_nil hs) hs) fun σ H R w => by
  obtain ⟨H0, G0, Hs, F, η, ok, p⟩ := w
  refine tE.use ok ((Post.bind p).imp fun d pd v H' Hs' st rd ok' => ?_)
  cases d <;> first | exact pd.elim | skip
  rename_i j
  have pd' : Post (sta X h) W σ H (if -lim62 ≤ j ∧ j < lim62 then Res.ok (rangeD 0 j.toNat) else .stuck) _ := pd
  split at pd'
  · rename_i hj
    unfold Rep at rd
    rw [lim_eq] at hj
    exact ⟨j, by rw [rd], hj.1, hj.2, pd' _ H' Hs' st walks_range⟩
  · exact pd'.elim
theorem i_range2 (hm : X.mg "range" = none) (ha : PE X a (tE (sta X h) W Γ ma na)) (hb : PE X b (tE (sta X h) W Γ mb nb)) (hg : Gl X "range" := by rfl) (hs : starEach [a, b] X.env = [(false, eval a X.env), (false, eval b X.env)] := by rfl) (hs2 : starEach [b] X.env = [(false, eval b X.env)] := by rfl) :
    PI X tg (.Call (.Name "range" p) [a, b] [] pos) (tI (sta X h) W Γ (iRange2 ma mb)) := impI (pi_range2 hg hm (pa_cons ha (pa_cons hb pa_nil hs2) (by rw [hs, hs2])) hs hs2) fun σ H R w => by
  obtain ⟨H0, G0, Hs, F, η, ok, p⟩ := w
  refine tE.use ok ((Post.bind p).imp fun d pd v H1 Hs1 st1 rd ok1 => ?_)
  refine tE.use ok1 (((Post.bind pd).up st1.all).imp fun e pe u H2 Hs2 st2 re ok2 => ?_)
  cases d <;> first | exact pe.elim | skip
  cases e <;> first | exact pe.elim | skip
  rename_i i j
  have pd' : Post (sta X h) W σ H (if (-lim62 ≤ i ∧ i < lim62) ∧ (-lim62 ≤ j ∧ j < lim62) then Res.ok (rangeD i (j - i).toNat) else .stuck) _ := pe
  split at pd'
  · rename_i hj
    unfold Rep at rd re
    rw [lim_eq] at hj
    exact ⟨i, j, by rw [rd, re], ⟨hj.1.1, hj.1.2, hj.2.1, hj.2.2⟩, pd' _ H2 Hs2 (st1.trans st2) walks_range⟩
  · exact pd'.elim
theorem walks_rev {S : Sta} {Hs : Hp} {l : Addr} {vs : List V} {ds : List D} (hl : Rd Hs l (.lst vs)) (r : Reps S Hs ds vs) : Walks S Hs (Itv S.K l vs.length) ds.reverse := fun i H' Hs' s1 s2 => by
  have q : SqL S.K H' l vs := .inl (rd_sub (s1.trans s2) hl)
  have hlen := r.length
  refine ⟨fun d hd => ?_, fun hn => ?_⟩
  · have hi : i < ds.length := by
      have := (List.getElem?_eq_some_iff.mp hd).1
      simpa using this
    rw [List.getElem?_reverse hi] at hd
    obtain ⟨v, h1, h2⟩ := r.get hd
    rw [← hlen] at h1
    refine ⟨⟨by omega, vs, v, q, h1⟩, fun x H'' y => ?_⟩
    obtain ⟨rfl, y⟩ := y
    have e := y vs q
    rw [h1] at e
    cases e
    exact ⟨Hs', Step.refl s2, h2.same s1⟩
  · have := List.getElem?_eq_none_iff.mp hn
    show vs.length ≤ i
    rw [hlen]
    simpa using this
theorem i_rev (hm : X.mg "reversed" = none) (ha : PE X a (tE (sta X h) W Γ ma na)) (hg : Gl X "reversed" := by rfl) (hs : starEach [a] X.env = [(false, eval a X.env)] := by rfl) : PI X tg (.Call (.Name "reversed" p) [a] [] pos) (tI (sta X h) W Γ (iRev ma)) := impI (pi_reversed hg hm (pa_cons ha pa_nil hs) hs) fun σ H R w => by
  obtain ⟨H0, G0, Hs, F, η, ok, p⟩ := w
  refine tE.use ok ((Post.bind p).imp fun d pd v H' Hs' st rd ok' => ?_)
  have pb := Post.bind pd
  unfold lstOf at pb
  split at pb
  · rename_i ds
    unfold Rep at rd
    obtain ⟨l, vs, rfl, r1, r2⟩ := rd
    exact ⟨l, vs, rfl, .inl (rd_sub ok'.sub r1), pb _ H' Hs' st (walks_rev r1 r2)⟩
  · exact pb.elim
theorem enumD_get : ∀ (xs : List D) (k i : Nat), (enumD k xs)[i]? = (xs[i]?).map fun x => D.tup [.int ((k + i : Nat) : Int), x]
  | [], k, i => by simp [enumD]
  | x :: xs, k, 0 => by simp [enumD]
  | x :: xs, k, i + 1 => by
    unfold enumD
    rw [List.getElem?_cons_succ, List.getElem?_cons_succ, enumD_get xs (k + 1) i]
    have e : k + 1 + i = k + (i + 1) := by omega
    rw [e]
theorem walks_enum {S : Sta} {Hs : Hp} {l : Addr} {vs : List V} {ds : List D} (hl : Rd Hs l (.lst vs)) (r : Reps S Hs ds vs) : Walks S Hs (Ite S.K l) (enumD 0 ds) := fun i H' Hs' s1 s2 => by
  have q : SqL S.K H' l vs := .inl (rd_sub (s1.trans s2) hl)
  refine ⟨fun d hd => ?_, fun hn => ?_⟩
  · rw [enumD_get] at hd
    obtain ⟨d0, hd0, rfl⟩ := Option.map_eq_some_iff.mp hd
    obtain ⟨v, h1, h2⟩ := r.get hd0
    refine ⟨⟨vs, v, q, h1⟩, fun x H'' y => ?_⟩
    obtain ⟨T, x0, rfl, hT, rfl, y⟩ := y
    have e := y vs q
    rw [h1] at e
    cases e
    rw [Nat.zero_add]
    exact ⟨_, Step.newS s2 hT, rep_newT s2 hT (Reps.cons_iff.mpr ⟨_, _, rfl, rep_int, Reps.one (h2.same s1)⟩)⟩
  · rw [enumD_get] at hn
    have e : ds[i]? = none := by
      cases q : ds[i]? with
      | none => rfl
      | some d => rw [q] at hn; cases hn
    exact ⟨vs, q, by rw [r.length]; exact List.getElem?_eq_none_iff.mp e⟩
theorem i_enum {elts : List Expr} {kk : Nat} {tpos : Pos} (hm : X.mg "enumerate" = none) (ha : PE X a (tE (sta X h) W Γ ma na)) (hg : Gl X "enumerate" := by rfl) (hs : starEach [a] X.env = [(false, eval a X.env)] := by rfl) : PI X (.Tuple elts kk tpos) (.Call (.Name "enumerate" p) [a] [] pos) (tI (sta X h) W Γ (iEnum ma)) := impI (pi_enum hg hm (pa_cons ha pa_nil hs) hs) fun σ H R w => by
  obtain ⟨H0, G0, Hs, F, η, ok, p⟩ := w
  refine tE.use ok ((Post.bind p).imp fun d pd v H' Hs' st rd ok' => ?_)
  have pb := Post.bind pd
  unfold lstOf at pb
  split at pb
  · rename_i ds
    unfold Rep at rd
    obtain ⟨l, vs, rfl, r1, r2⟩ := rd
    exact ⟨l, vs, rfl, .inl (rd_sub ok'.sub r1), pb _ H' Hs' st (walks_enum r1 r2)⟩
  · exact pb.elim
theorem zipD_get : ∀ (xs ys : List D) (i : Nat), (zipD xs ys)[i]? = (xs[i]?).bind fun x => (ys[i]?).map fun y => D.tup [x, y]
  | [], ys, i => by simp [zipD]
  | x :: xs, [], i => by cases i <;> simp [zipD]
  | x :: xs, y :: ys, 0 => by simp [zipD]
  | x :: xs, y :: ys, i + 1 => by
    unfold zipD
    rw [List.getElem?_cons_succ, List.getElem?_cons_succ, List.getElem?_cons_succ, zipD_get xs ys i]
theorem walks_zip {S : Sta} {Hs : Hp} {l l2 : Addr} {vs ws : List V} {ds es : List D} (hl : Rd Hs l (.lst vs)) (r : Reps S Hs ds vs) (hl2 : Rd Hs l2 (.lst ws)) (r2 : Reps S Hs es ws) : Walks S Hs (Itz S.K l l2) (zipD ds es) := fun i H' Hs' s1 s2 => by
  have q : SqL S.K H' l vs := .inl (rd_sub (s1.trans s2) hl)
  have q2 : SqL S.K H' l2 ws := .inl (rd_sub (s1.trans s2) hl2)
  refine ⟨fun d hd => ?_, fun hn => ?_⟩
  · rw [zipD_get] at hd
    obtain ⟨d0, hd0, hd⟩ := Option.bind_eq_some_iff.mp hd
    obtain ⟨e0, he0, rfl⟩ := Option.map_eq_some_iff.mp hd
    obtain ⟨v, h1, h2⟩ := r.get hd0
    obtain ⟨u, h3, h4⟩ := r2.get he0
    refine ⟨⟨vs, ws, v, u, q, q2, h1, h3⟩, fun x H'' y => ?_⟩
    obtain ⟨T, x0, y0, rfl, hT, rfl, y1, y2⟩ := y
    have e := y1 vs q
    rw [h1] at e
    cases e
    have e := y2 ws q2
    rw [h3] at e
    cases e
    exact ⟨_, Step.newS s2 hT, rep_newT s2 hT (Reps.cons_iff.mpr ⟨_, _, rfl, h2.same s1, Reps.one (h4.same s1)⟩)⟩
  · rw [zipD_get] at hn
    refine ⟨vs, ws, q, q2, ?_⟩
    rw [r.length, r2.length]
    cases e1 : ds[i]? with
    | none => exact .inl (List.getElem?_eq_none_iff.mp e1)
    | some d =>
      rw [e1] at hn
      have hn' : (es[i]?).map (fun y => D.tup [d, y]) = none := hn
      cases e2 : es[i]? with
      | none => exact .inr (List.getElem?_eq_none_iff.mp e2)
      | some d2 => rw [e2] at hn'; cases hn'
theorem i_zip {elts : List Expr} {kk : Nat} {tpos : Pos} (hm : X.mg "zip" = none) (ha : PE X a (tE (sta X h) W Γ ma na)) (hb : PE X b (tE (sta X h) W Γ mb nb)) (hg : Gl X "zip" := by rfl) (hs : starEach [a, b] X.env = (false, eval a X.env) :: starEach [b] X.env := by rfl) (hs2 : starEach [b] X.env = [(false, eval b X.env)] := by rfl) (hpl : (backTo pos (starEach [b] X.env)).any (·.1) = false := by rfl) :
    PI X (.Tuple elts kk tpos) (.Call (.Name "zip" p) [a, b] [] pos) (tI (sta X h) W Γ (iZip ma mb)) := impI (pi_zip hg hm (pa_cons ha (pa_cons hb pa_nil hs2) hs) hs hpl) fun σ H R w => by
  obtain ⟨H0, G0, Hs, F, η, ok, p⟩ := w
  refine tE.use ok ((Post.bind p).imp fun d pd v H1 Hs1 st1 rd ok1 => ?_)
  refine tE.use ok1 (((Post.bind pd).up st1.all).imp fun e pe u H2 Hs2 st2 re ok2 => ?_)
  have pb := Post.bind pe
  unfold lstOf at pb
  split at pb
  · rename_i ds
    have pc := Post.bind (show Post (sta X h) W σ H ((match e with | .lst xs => Res.ok xs | _ => .stuck).bind fun ys => Res.ok (zipD ds ys)) _ from pb)
    split at pc
    · rename_i es
      have rd' := rd.same st2.shr
      unfold Rep at rd' re
      obtain ⟨l, vs, rfl, r1, r2⟩ := rd'
      obtain ⟨l2, ws, rfl, r3, r4⟩ := re
      exact ⟨l, l2, vs, ws, rfl, .inl (rd_sub ok2.sub r1), .inl (rd_sub ok2.sub r3), pc _ H2 Hs2 (st1.trans st2) (walks_zip r1 r2 r3 r4)⟩
    · exact pc.elim
  · exact pb.elim
end
end VL
/-! VLStmt: what is bound, comprehensions, statements. -/
namespace VL
open PySem PySem.Spec L2
/-! ### slots set -/
theorem Owns.move {S : Sta} {H H' Hs Hs' : Hp} (e : Same Hs Hs') : ∀ (ds : List D) (n : Nat) (vs : List V) (F : List Addr), (∀ a ∈ F, H' a = H a) → Owns S H Hs ds n vs F → Owns S H' Hs' ds n vs F
  | [], n, vs, F, _, h => Owns.nil.mpr (Owns.nil.mp h)
  | d :: ds, n, vs, F, k, h => by
    obtain ⟨v, ws, F1, F2, rfl, rfl, h1, h2⟩ := Owns.cons.mp h
    exact Owns.cons.mpr ⟨v, ws, F1, F2, rfl, rfl, h1.move e d n v F1 (fun a ha => k a (List.mem_append_left _ ha)), Owns.move e ds n ws F2 (fun a ha => k a (List.mem_append_right _ ha)) h2⟩
section
variable {S : Sta} {H0 G0 H H1 Hs Hs1 : Hp} {Γ Γ2 : List Nat} {F : Nat → List Addr} {σ : L2.St} {η : Env} {Fr : List Addr}
theorem EOk.cong (ok : EOk S H0 G0 H Hs Γ F σ η) (e : ∀ i, Γ2.getD i 0 = Γ.getD i 0) : EOk S H0 G0 H Hs Γ2 F σ η :=
  ⟨ok.st, ok.len, fun i d h => by rw [e]; exact ok.slot i d h, ok.hid, ok.disj, ok.nd, ok.hot⟩
theorem getD_set {l : List Nat} {i j n : Nat} : (l.set i n).getD j 0 = if i = j ∧ i < l.length then n else l.getD j 0 := by
  simp only [List.getD_eq_getElem?_getD, List.getElem?_set]
  by_cases e : i = j
  · subst e
    by_cases h : i < l.length
    · simp [h]
    · simp [h]
  · simp [e]
theorem EOk.set {i n : Nat} {d : D} {v : V} (ok : EOk S H0 G0 H Hs Γ F σ η) (hot : S.hot = none) (o : Own S H Hs d n v Fr) (hi : i < Γ.length ∨ (n = 0 ∧ Γ.getD i 0 = 0)) (fr : ∀ a ∈ Fr, Hs a = none ∧ H0 a = none ∧ (∃ o, H a = some o)) (dj : ∀ j a, j ≠ i → a ∈ F j → a ∉ Fr) (nd : Fr.Nodup) :
    EOk S H0 G0 H Hs (Γ.set i n) (fun j => if j = i then Fr else F j) (σ.set i (some v)) (η.set i (some d)) where
  st := ok.st
  len := by rw [List.length_set, List.length_set, ok.len]
  slot := fun j e he => by
    rw [List.getElem?_set] at he ⊢
    rw [getD_set]
    by_cases hj : i = j
    · subst hj
      simp only [if_true] at he ⊢
      have hl : i < η.length := by
        by_cases hl : i < η.length
        · exact hl
        · rw [if_neg hl] at he; cases he
      rw [if_pos hl] at he
      rw [if_pos (by rw [ok.len]; exact hl)]
      have e1 : d = e := by simpa using he
      subst e1
      refine ⟨v, rfl, ?_⟩
      rcases hi with hi | ⟨hi, hg⟩
      · simp only [hi, and_self, if_true]; exact o
      · subst hi
        by_cases hl2 : i < Γ.length
        · simp only [hl2, and_self, if_true]; exact o
        · simp only [hl2, and_false, if_false]; rw [hg]; exact o
    · simp only [hj, if_false, false_and] at he ⊢
      obtain ⟨w, h1, h2⟩ := ok.slot j e he
      refine ⟨w, h1, ?_⟩
      rw [if_neg (Ne.symm hj)]
      exact h2
  hid := fun j a ha => by
    by_cases hj : j = i
    · subst hj
      rw [if_pos rfl] at ha
      exact fr a ha
    · rw [if_neg hj] at ha; exact ok.hid j a ha
  disj := fun j k a h1 h2 => by
    by_cases hj : j = i
    · by_cases hk : k = i
      · rw [hj, hk]
      · rw [if_pos hj] at h1
        rw [if_neg hk] at h2
        exact absurd h1 (dj k a hk h2)
    · by_cases hk : k = i
      · rw [if_neg hj] at h1
        rw [if_pos hk] at h2
        exact absurd h2 (dj j a hj h1)
      · rw [if_neg hj] at h1
        rw [if_neg hk] at h2
        exact ok.disj j k a h1 h2
  nd := fun j => by
    by_cases hj : j = i
    · simp only [hj, if_true]; exact nd
    · simp only [hj, if_false]; exact ok.nd j
  hot := fun j a e h => by rw [hot] at h; cases h
/-- an evaluated value is bound -/
theorem EOk.bind {i n : Nat} {d : D} {v : V} (ok : EOk S H0 G0 H Hs Γ F σ η) (hot : S.hot = none) (st : Step H Hs H1 Hs1 Fr) (o : Own S H1 Hs1 d n v Fr) (hi : i < Γ.length ∨ (n = 0 ∧ Γ.getD i 0 = 0)) :
    EOk S H0 G0 H1 Hs1 (Γ.set i n) (fun j => if j = i then Fr else F j) (σ.set i (some v)) (η.set i (some d)) :=
  (ok.step st).set hot o hi (fun a ha => ⟨(st.fr a ha).2, ok.st.all.free (st.fr a ha).1, o.there d n v Fr a ha⟩) (fun j a _ h1 h2 => by
    obtain ⟨_, _, o, ho⟩ := ok.hid j a h1
    rw [(st.fr a h2).1] at ho
    cases ho) st.nd
theorem EOk.setH {i n : Nat} {d : D} {v : V} (ok : EOk S H0 G0 H Hs Γ F σ η) (hot : ∀ j a e, S.hot = some (j, a, e) → j ≠ i) (o : Own S H Hs d n v Fr) (hi : i < Γ.length ∨ (n = 0 ∧ Γ.getD i 0 = 0)) (fr : ∀ a ∈ Fr, Hs a = none ∧ H0 a = none ∧ (∃ o, H a = some o)) (dj : ∀ j a, j ≠ i → a ∈ F j → a ∉ Fr) (nd : Fr.Nodup) :
    EOk S H0 G0 H Hs (Γ.set i n) (fun j => if j = i then Fr else F j) (σ.set i (some v)) (η.set i (some d)) where
  st := ok.st
  len := by rw [List.length_set, List.length_set, ok.len]
  slot := fun j e he => by
    rw [List.getElem?_set] at he ⊢
    rw [getD_set]
    by_cases hj : i = j
    · subst hj
      simp only [if_true] at he ⊢
      have hl : i < η.length := by
        by_cases hl : i < η.length
        · exact hl
        · rw [if_neg hl] at he; cases he
      rw [if_pos hl] at he
      rw [if_pos (by rw [ok.len]; exact hl)]
      have e1 : d = e := by simpa using he
      subst e1
      refine ⟨v, rfl, ?_⟩
      rcases hi with hi | ⟨hi, hg⟩
      · simp only [hi, and_self, if_true]; exact o
      · subst hi
        by_cases hl2 : i < Γ.length
        · simp only [hl2, and_self, if_true]; exact o
        · simp only [hl2, and_false, if_false]; rw [hg]; exact o
    · simp only [hj, if_false, false_and] at he ⊢
      obtain ⟨w, h1, h2⟩ := ok.slot j e he
      refine ⟨w, h1, ?_⟩
      rw [if_neg (Ne.symm hj)]
      exact h2
  hid := fun j a ha => by
    by_cases hj : j = i
    · subst hj
      rw [if_pos rfl] at ha
      exact fr a ha
    · rw [if_neg hj] at ha; exact ok.hid j a ha
  disj := fun j k a h1 h2 => by
    by_cases hj : j = i
    · by_cases hk : k = i
      · rw [hj, hk]
      · rw [if_pos hj] at h1
        rw [if_neg hk] at h2
        exact absurd h1 (dj k a hk h2)
    · by_cases hk : k = i
      · rw [if_neg hj] at h1
        rw [if_pos hk] at h2
        exact absurd h2 (dj j a hj h1)
      · rw [if_neg hj] at h1
        rw [if_neg hk] at h2
        exact ok.disj j k a h1 h2
  nd := fun j => by
    by_cases hj : j = i
    · simp only [hj, if_true]; exact nd
    · simp only [hj, if_false]; exact ok.nd j
  hot := fun j a e h => by
    have z := hot j a e h
    rw [List.getElem?_set_ne (Ne.symm z)]
    exact ok.hot j a e h
/-- an evaluated value is bound -/
theorem EOk.bindH {i n : Nat} {d : D} {v : V} (ok : EOk S H0 G0 H Hs Γ F σ η) (hot : ∀ j a e, S.hot = some (j, a, e) → j ≠ i) (st : Step H Hs H1 Hs1 Fr) (o : Own S H1 Hs1 d n v Fr) (hi : i < Γ.length ∨ (n = 0 ∧ Γ.getD i 0 = 0)) :
    EOk S H0 G0 H1 Hs1 (Γ.set i n) (fun j => if j = i then Fr else F j) (σ.set i (some v)) (η.set i (some d)) :=
  (ok.step st).setH hot o hi (fun a ha => ⟨(st.fr a ha).2, ok.st.all.free (st.fr a ha).1, o.there d n v Fr a ha⟩) (fun j a _ h1 h2 => by
    obtain ⟨_, _, o, ho⟩ := ok.hid j a h1
    rw [(st.fr a h2).1] at ho
    cases ho) st.nd
/-- a slot is forgotten -/
theorem EOk.gone {i : Nat} (ok : EOk S H0 G0 H Hs Γ F σ η) (hot : S.hot = none) : EOk S H0 G0 H Hs Γ F (σ.set i none) (η.set i none) where
  st := ok.st
  len := by rw [List.length_set, List.length_set, ok.len]
  slot := fun j e he => by
    rw [List.getElem?_set] at he ⊢
    by_cases hj : i = j
    · subst hj
      simp only [if_true] at he
      split at he <;> cases he
    · simp only [hj, if_false] at he ⊢
      exact ok.slot j e he
  hid := ok.hid
  disj := ok.disj
  nd := ok.nd
  hot := fun j a e h => by rw [hot] at h; cases h
theorem EOk.wipe (ok : EOk S H0 G0 H Hs Γ F σ η) (hot : S.hot = none) : ∀ vs : List Nat, EOk S H0 G0 H Hs Γ F (wipe σ vs) (wipeE η vs)
  | [] => ok
  | v :: vs => (EOk.wipe ok hot vs).gone hot
end
theorem wipe_get (σ : L2.St) : ∀ (vs : List Nat) (i : Nat), (wipe σ vs)[i]? = if i ∈ vs ∧ i < σ.length then some none else σ[i]?
  | [], i => by simp [wipe]
  | v :: vs, i => by
    unfold wipe
    rw [List.getElem?_set, wipe_length, wipe_get σ vs i]
    by_cases e : v = i
    · subst e
      by_cases h : v < σ.length <;> simp [h]
    · have e' : ¬ i = v := fun q => e q.symm
      simp [e, e']
theorem wipe_same {σ σ' : L2.St} {vs : List Nat} (hl : σ'.length = σ.length) (h : ∀ j, j ∉ vs → σ'[j]? = (wipe σ vs)[j]?) : wipe σ' vs = wipe σ vs := by
  apply List.ext_getElem?
  intro i
  rw [wipe_get, wipe_get]
  by_cases hi : i ∈ vs
  · by_cases hlt : i < σ.length
    · simp [hi, hlt, hl]
    · have h1 : ¬ i < σ'.length := by rw [hl]; exact hlt
      rw [if_neg (fun q => h1 q.2), if_neg (fun q => hlt q.2), List.getElem?_eq_none (by omega), List.getElem?_eq_none (by omega)]
  · rw [if_neg (fun q => hi q.1), if_neg (fun q => hi q.1), h i hi, wipe_get, if_neg (fun q => hi q.1)]
theorem wipe_wipe (σ : L2.St) (vs : List Nat) : wipe (wipe σ vs) vs = wipe σ vs := by
  apply List.ext_getElem?
  intro i
  rw [wipe_get, wipe_get, wipe_length]
  by_cases h : i ∈ vs ∧ i < σ.length
  · rw [if_pos h]
    simp [h]
  · rw [if_neg h]
/-! ### targets -/
def gB (S : Sta) (Γ : List Nat) (b : Bd) (sl : List Nat) : TG := fun v σ H Q => ∃ (H0 G0 Hs : Hp) (F : Nat → List Addr) (η : Env) (d : D), EOk S H0 G0 H Hs Γ F σ η ∧ Rep S Hs d v ∧
  ∃ η1, b d η = some η1 ∧ ∀ (σ1 : L2.St) (F1 : Nat → List Addr), EOk S H0 G0 H Hs Γ F1 σ1 η1 → (∀ j, j ∉ sl → σ1[j]? = σ[j]?) → σ1.length = σ.length → Q σ1 H
def gBs (S : Sta) (Γ : List Nat) (b : List D → Env → Option Env) (sl : List Nat) : TGs := fun vs σ H Q => ∃ (H0 G0 Hs : Hp) (F : Nat → List Addr) (η : Env) (ds : List D), EOk S H0 G0 H Hs Γ F σ η ∧ Reps S Hs ds vs ∧
  ∃ η1, b ds η = some η1 ∧ ∀ (σ1 : L2.St) (F1 : Nat → List Addr), EOk S H0 G0 H Hs Γ F1 σ1 η1 → (∀ j, j ∉ sl → σ1[j]? = σ[j]?) → σ1.length = σ.length → Q σ1 H
theorem set_zero {Γ : List Nat} {i : Nat} (h : Γ.getD i 0 = 0) : ∀ j, (Γ.set i 0).getD j 0 = Γ.getD j 0 := fun j => by
  rw [getD_set]
  split
  · rename_i q; rw [← q.1, h]
  · rfl
section
variable {X : Cx} {W : WX} {Γ : List Nat} {tg e elt iter : Expr} {es ts ifs : List Expr} {n k : Nat} {pos p : Pos} {x : Str} {b : Bd} {r : List D → Env → Option Env} {sl sl2 : List Nat}
theorem impG {t t' : TG} (h : PG X tg t) (i : ∀ v σ H Q, t' v σ H Q → t v σ H Q) : PG X tg t' := ⟨fun pins s σ H v u Q I rv w => h.run pins s σ H v u Q I rv (i v σ H Q w)⟩
theorem impGs {t t' : TGs} (h : PGs X ts t) (i : ∀ v σ H Q, t' v σ H Q → t v σ H Q) : PGs X ts t' := ⟨fun pins s σ H v u Q I rv w => h.run pins s σ H v u Q I rv (i v σ H Q w)⟩
theorem g_name (i : Nat) (hN : X.N.Nodup) (hi : X.N[i]? = some x := by rfl) (hg : Γ.getD i 0 = 0 := by rfl) (hx : Loc X.env.scope x := by first | exact Or.inl rfl | exact Or.inr rfl) (hf : X.fn x = true ∨ X.env.scope.names.lookup x = some .local := by first | exact .inl rfl | exact .inr rfl | assumption) :
    PG X (.Name x pos) (gB (sta X none) Γ (bName i) [i]) := impG (pg_name hN hi hx hf) fun v σ H Q w => by
  obtain ⟨H0, G0, Hs, F, η, d, ok, rd, η1, e1, kk⟩ := w
  unfold bName at e1
  split at e1
  · cases e1
    refine kk _ _ (((ok.bind rfl (Step.refl ok.sub) rd.own (.inr ⟨rfl, hg⟩))).cong fun j => (set_zero hg j).symm) (fun j hj => ?_) (by rw [List.length_set])
    rw [List.getElem?_set_ne (fun q => hj (by simp [q]))]
  · cases e1
theorem gs_nil : PGs X [] (gBs (sta X none) Γ bNil []) := impGs pgs_nil fun vs σ H Q w => by
  obtain ⟨H0, G0, Hs, F, η, ds, ok, rd, η1, e1, kk⟩ := w
  cases ds with
  | nil =>
    cases e1
    exact ⟨Reps.nil_iff.mp rd, kk σ F ok (fun _ _ => rfl) rfl⟩
  | cons d ds => cases e1
theorem gs_cons (h1 : PG X e (gB (sta X none) Γ b sl)) (h2 : PGs X es (gBs (sta X none) Γ r sl2)) (hst : (assignEach (e :: es) X.env).map (·.2) = assign e X.env :: (assignEach es X.env).map (·.2) := by rfl) : PGs X (e :: es) (gBs (sta X none) Γ (bCons b r) (sl ++ sl2)) := impGs (pgs_cons h1 h2 hst) fun vs σ H Q w => by
  obtain ⟨H0, G0, Hs, F, η, ds, ok, rd, η1, e1, kk⟩ := w
  cases ds with
  | nil => cases e1
  | cons d ds =>
    obtain ⟨v, ws, rfl, r1, r2⟩ := Reps.cons_iff.mp rd
    obtain ⟨η2, e2, e3⟩ := Option.bind_eq_some_iff.mp (show (b d η).bind (r ds) = some η1 from e1)
    refine ⟨v, ws, rfl, H0, G0, Hs, F, η, d, ok, r1, η2, e2, fun σ1 F1 ok1 hs1 hl1 => ?_⟩
    exact ⟨H0, G0, Hs, F1, η2, ds, ok1, r2, η1, e3, fun σ2 F2 ok2 hs2 hl2 => kk σ2 F2 ok2 (fun j hj => by
      rw [List.mem_append] at hj
      rw [hs2 j (fun q => hj (.inr q)), hs1 j (fun q => hj (.inl q))]) (hl2.trans hl1)⟩
theorem bl_nil : ∀ (ds : List D) (η η1 : Env), bNil ds η = some η1 → ds.length = 0 := fun ds η η1 h => by
  cases ds with
  | nil => rfl
  | cons d ds => cases h
theorem bl_cons {k : Nat} (h : ∀ (ds : List D) (η η1 : Env), r ds η = some η1 → ds.length = k) : ∀ (ds : List D) (η η1 : Env), bCons b r ds η = some η1 → ds.length = k + 1 := fun ds η η1 e => by
  cases ds with
  | nil => cases e
  | cons d ds =>
    obtain ⟨η2, e2, e3⟩ := Option.bind_eq_some_iff.mp (show (b d η).bind (r ds) = some η1 from e)
    rw [List.length_cons, h ds η2 η1 e3]
theorem g_tup {j : Nat} (hc : X.calm = true) (h : PGs X es (gBs (sta X none) Γ r sl)) (hl : ∀ (ds : List D) (η η1 : Env), r ds η = some η1 → ds.length = n) (hn : (assignEach es X.env).length = n := by rfl) (hst : (assignEach es X.env).findIdx? (·.1) = none := by rfl) :
    PG X (.Tuple es j pos) (gB (sta X none) Γ (bTup r) sl) := impG (pg_tup hc h hn hst) fun v σ H Q w => by
  obtain ⟨H0, G0, Hs, F, η, d, ok, rd, η1, e1, kk⟩ := w
  cases d <;> first | (cases e1; done) | skip
  rename_i ds
  unfold Rep at rd
  obtain ⟨a, vs, rfl, r1, r2⟩ := rd
  exact ⟨a, vs, rfl, sqt_sub ok.sub r1, by rw [r2.length]; exact hl ds η η1 e1, H0, G0, Hs, F, η, ds, ok, r2, η1, e1, kk⟩
end
end VL
/-! VLComp: comprehensions. -/
namespace VL
open PySem PySem.Spec L2
abbrev W0 : WX := fun _ _ _ _ => False
/-- new objects behind a step: the list at P is changed -/
theorem Step.grow {H Hs H1 Hs1 : Hp} {P : Addr} {G Fr : List Addr} {o o' : HO} {H2 Hs2 : Hp} (a : Step H Hs H1 Hs1 (P :: G)) (hP : H1 P = some o) (hG : ∀ x ∈ G, ∃ u, H1 x = some u) (b : Step H1 Hs1 H2 Hs2 Fr) : Step H Hs (upd H2 P o') Hs2 (P :: (G ++ Fr)) where
  all := fun x u e => by
    rw [upd_ne (ne_of_none e (a.fr P List.mem_cons_self).1)]
    exact b.all x u (a.all x u e)
  shr := a.shr.trans b.shr
  sub := fun x u e => by
    have n : x ≠ P := fun q => by
      rw [q, b.new P (a.fr P List.mem_cons_self).2 ⟨o, hP⟩] at e; cases e
    rw [upd_ne n]; exact b.sub x u e
  new := fun x h1 ⟨u, h2⟩ => b.new x (a.new x h1 ⟨u, h2⟩) ⟨u, a.all x u h2⟩
  fr := fun x hx => by
    rcases List.mem_cons.mp hx with e | hx
    · rw [e]; exact ⟨(a.fr P List.mem_cons_self).1, b.new P (a.fr P List.mem_cons_self).2 ⟨o, hP⟩⟩
    · rcases List.mem_append.mp hx with hx | hx
      · exact ⟨(a.fr x (List.mem_cons_of_mem _ hx)).1, b.new x (a.fr x (List.mem_cons_of_mem _ hx)).2 (hG x hx)⟩
      · exact ⟨a.all.free (b.fr x hx).1, (b.fr x hx).2⟩
  nd := by
    have h1 := List.nodup_cons.mp a.nd
    refine List.nodup_cons.mpr ⟨fun hx => ?_, List.nodup_append.mpr ⟨h1.2, b.nd, fun x hx y hy e => ?_⟩⟩
    · rcases List.mem_append.mp hx with hx | hx
      · exact h1.1 hx
      · rw [(b.fr P hx).1] at hP; cases hP
    · subst e
      obtain ⟨u, hu⟩ := hG x hx
      rw [(b.fr x hy).1] at hu; cases hu
theorem Owns.there {S : Sta} {H Hs : Hp} : ∀ {ds : List D} {n : Nat} {vs : List V} {F : List Addr}, Owns S H Hs ds n vs F → ∀ a ∈ F, ∃ o, H a = some o
  | [], n, vs, F, h, a, ha => by rw [(Owns.nil.mp h).2] at ha; cases ha
  | d :: ds, n, vs, F, h, a, ha => by
    obtain ⟨v, ws, F1, F2, rfl, rfl, h1, h2⟩ := Owns.cons.mp h
    rcases List.mem_append.mp ha with ha | ha
    · exact h1.there d n v F1 a ha
    · exact Owns.there h2 a ha
/-- the state in a comprehension: the list at P holds acc -/
structure CpOk (S : Sta) (H Hs : Hp) (P : Addr) (ne : Nat) (acc : List D) (H' Hs' : Hp) (vs : List V) (G : List Addr) : Prop where
  st : Step H Hs H' Hs' (P :: G)
  at_ : H' P = some (.lst vs)
  own : Owns S H' Hs' acc ne vs G
section
variable {X : Cx} {W : WX} {Γ : List Nat} {tg elt iter : Expr} {ifs : List Expr} {mi : M (List D)} {b : Bd} {q : M Bool} {me : M D} {ne i : Nat} {own sl : List Nat} {pos spos py : Pos} {S : Sta} {σ : L2.St} {H : Hp} {Q : VK}
theorem compGo_stuck {η : Env} {xs acc : List D} : compGo b q me η xs acc ≠ .stuck → ∃ ds, compGo b q me η xs acc = .ok ds := by
  intro h
  cases e : compGo b q me η xs acc with
  | ok ds => exact ⟨ds, rfl⟩
  | stuck => exact absurd e h
  | exc er =>
    exfalso
    revert e
    clear h
    induction xs generalizing acc with
    | nil => intro e; cases e
    | cons x xs ih =>
      intro e
      unfold compGo at e
      split at e
      · split at e
        · split at e
          · split at e
            · exact ih e
            · cases e
          · cases e
        · exact ih e
        · cases e
      · cases e
theorem lc_of (hot : S.hot = none) (hsl : ∀ j ∈ sl, j ∈ own) (w : tE S W Γ (dComp mi b q me own) (ne + 1) σ H Q) : tLc (tI S W Γ mi) (gB S Γ b sl) (tQ S W0 Γ q) (tE S W0 Γ me ne) own σ H Q := by
  obtain ⟨H0, G0, Hs, F, η, ok, p⟩ := w
  refine ⟨H0, G0, Hs, F, η, ok, (Post.bind p).imp fun xs px J H1 Hs1 st1 wk P hP => ?_⟩
  have pb := Post.bind px
  have ok1 := ok.step st1
  obtain ⟨dsF, hF⟩ : ∃ ds, compGo b q me (wipeE η own) xs [] = .ok ds := compGo_stuck fun e => by rw [e] at pb; exact pb
  rw [hF] at pb
  have fin : ∀ (v : V) (H' Hs' : Hp) (Fr : List Addr), Step H Hs H' Hs' Fr → Own S H' Hs' (.lst dsF) (ne + 1) v Fr → Q v H' := pb
  refine ⟨fun i m H' => m = xs.length - i ∧ i ≤ xs.length ∧ ∃ (Hs' : Hp) (acc : List D) (vs : List V) (G : List Addr), CpOk S H1 Hs1 P ne acc H' Hs' vs G ∧ compGo b q me (wipeE η own) (xs.drop i) acc = .ok dsF, ⟨xs.length, rfl, Nat.zero_le _, Hs1, [], [], [], ⟨Step.newO ok1.sub hP, upd_same, Owns.nil.mpr ⟨rfl, rfl⟩⟩, hF⟩, ?_⟩
  rintro i m H' ⟨rfl, hi, Hs', acc, vs, G, cp, go⟩
  obtain ⟨wk1, wk2⟩ := wk i H' Hs' cp.st.shr cp.st.sub
  by_cases hlt : i < xs.length
  · right
    have hx : xs[i]? = some xs[i] := List.getElem?_eq_getElem hlt
    obtain ⟨g1, g2⟩ := wk1 _ hx
    have hdrop : xs.drop i = xs[i] :: xs.drop (i + 1) := List.drop_eq_getElem_cons hlt
    rw [hdrop] at go
    unfold compGo at go
    have okc := ok1.step cp.st
    refine ⟨g1, fun H2 => ∃ (Hs2 : Hp) (acc : List D) (vs : List V) (G : List Addr), CpOk S H1 Hs1 P ne acc H2 Hs2 vs G ∧ compGo b q me (wipeE η own) (xs.drop (i + 1)) acc = .ok dsF, fun H2 h2 => ⟨xs.length - (i + 1), by omega, rfl, hlt, h2⟩, fun x H2 yl => ?_⟩
    obtain ⟨Hs2, st2, rx⟩ := g2 x H2 yl
    split at go
    · rename_i η1 hb
      have okw := (okc.step st2).wipe hot own
      refine ⟨H0, G0, Hs2, F, wipeE η own, xs[i], okw, rx, η1, hb, fun σ2 F1 ok2 hs2 hl2 => ?_⟩
      refine ⟨?_, H0, G0, Hs2, F1, η1, ok2, ?_⟩
      · have e1 := wipe_same (σ := wipe σ own) (σ' := σ2) (vs := own) hl2 fun j hj => by
          rw [hs2 j (fun z => hj (hsl j z)), wipe_wipe]
        rw [e1, wipe_wipe]
      · have stp : Step H1 Hs1 H2 Hs2 (P :: G) → True := fun _ => trivial
        split at go
        · rename_i hq
          rw [hq]
          refine fun H3 Hs3 st3 => ?_
          dsimp only
          rw [if_pos rfl]
          split at go
          · rename_i d he
            split at go
            · rename_i hlen
              refine ⟨H0, G0, Hs3, F1, η1, ok2.step st3, ?_⟩
              rw [he]
              refine fun v H4 Hs4 Fr4 st4 o4 => ?_
              have s24 := (st2.trans st3).trans st4
              have hP4 : H4 P = some (.lst vs) := s24.all P _ cp.at_
              refine ⟨vs, hP4, by rw [cp.own.length, ← line_eq]; exact hlen, Hs4, acc ++ [d], vs ++ [v], G ++ Fr4, ⟨?_, upd_same, ?_⟩, go⟩
              · exact Step.grow cp.st cp.at_ cp.own.there s24
              · have nP : ∀ a ∈ G ++ Fr4, (upd H4 P (.lst (vs ++ [v]))) a = H4 a := fun a ha => upd_ne fun e => by
                  subst e
                  rcases List.mem_append.mp ha with ha | ha
                  · exact (List.nodup_cons.mp cp.st.nd).1 ha
                  · have z := (s24.fr a ha).1
                    rw [cp.at_] at z; cases z
                have o1 : Owns S H4 Hs4 acc ne vs G := cp.own.move s24.shr acc ne vs G fun a ha => by
                  obtain ⟨u, hu⟩ := cp.own.there a ha
                  rw [hu, s24.all a u hu]
                exact (o1.append (Owns.one o4)).move (Same.refl _) _ _ _ _ nP
            · cases go
          · cases go
        · rename_i hq
          rw [hq]
          refine fun H3 Hs3 st3 => ?_
          dsimp only
          rw [if_neg Bool.false_ne_true]
          have s23 := st2.trans st3
          refine ⟨Hs3, acc, vs, G, ⟨?_, s23.all P _ cp.at_, cp.own.move s23.shr acc ne vs G fun a ha => by
            obtain ⟨u, hu⟩ := cp.own.there a ha
            rw [hu, s23.all a u hu]⟩, go⟩
          refine ⟨cp.st.all.trans s23.all, cp.st.shr.trans s23.shr, s23.sub, fun a h1 ⟨u, h2⟩ => s23.new a (cp.st.new a h1 ⟨u, h2⟩) ⟨u, cp.st.all a u h2⟩, fun a ha => ⟨(cp.st.fr a ha).1, s23.new a (cp.st.fr a ha).2 ?_⟩, cp.st.nd⟩
          rcases List.mem_cons.mp ha with e | ha
          · rw [e]; exact ⟨_, cp.at_⟩
          · exact cp.own.there a ha
        · cases go
    · cases go
  · left
    have e : i = xs.length := by omega
    subst e
    refine ⟨wk2 (List.getElem?_eq_none (Nat.le_refl _)), ?_⟩
    rw [List.drop_length] at go
    unfold compGo at go
    cases go
    exact fin _ H' Hs' (P :: G) (st1.trans cp.st) (Own.succ.mpr ⟨P, vs, G, rfl, rfl, cp.at_, cp.own⟩)
theorem t_nil {S : Sta} {W : WX} : PTs X [] (tQ S W Γ qYes) := ⟨fun pins s σ H Q I w => by
  obtain ⟨H0, G0, Hs, F, η, ok, p⟩ := w
  exact pts_nil.run pins s σ H Q I (p H Hs (Step.refl ok.sub))⟩
theorem t_one {c : Expr} {S : Sta} {W : WX} (h : PT X c (tQ S W Γ q)) : PTs X [c] (tQ S W Γ q) := pts_one h
theorem e_comp {scope : Scope} {own : List (Str × Nat)} (hc : X.calm = true) (hN : X.N.Nodup) (hi : PI X tg iter (tI (sta X none) W Γ mi)) (okB : BlkOk X.N X.env.scope scope own) (hsl : ∀ j ∈ sl, j ∈ own.map (·.2))
    (hg : ∀ (s : Shared) (H : Hp) (C : Addr) (cl : List (Str × Addr)) (fp : List Addr), PG (X.blk s H scope (compEnvC scope cl C X.env) fp) tg (gB (sta X none) Γ b sl)) (ht : ∀ (s : Shared) (H : Hp) (C : Addr) (cl : List (Str × Addr)) (fp : List Addr), PTs (X.blk s H scope (compEnvC scope cl C X.env) fp) ifs (tQ (sta X none) W0 Γ q))
    (he : ∀ (s : Shared) (H : Hp) (C : Addr) (cl : List (Str × Addr)) (fp : List Addr), PE (X.blk s H scope (compEnvC scope cl C X.env) fp) elt (tE (sta X none) W0 Γ me ne)) (hs : ∀ x, foldedSetIterable iter X.env x = pure x := by intro _; rfl) :
    PE X (.ListComp elt [⟨tg, iter, ifs, 0⟩] scope pos) (tE (sta X none) W Γ (dComp mi b q me (own.map (·.2))) (ne + 1)) := impE (pe_lc hc hN hi okB hg ht he hs) fun σ H Q w => lc_of rfl hsl w
end
end VL
/-! VLSt: statements. -/
namespace VL
open PySem PySem.Spec L2
structure Ct where
  S : Sta
  W : WX
  nr : Nat
  Γb : List Nat
  Γc : List Nat
def PostS (c : Ct) (H0 G0 : Hp) (Γ' : List Nat) (r : Fl) (D : Ends) : Prop := match r with
  | .nx η' => ∀ (σ' : L2.St) (H' Hs' : Hp) (F' : Nat → List Addr), EOk c.S H0 G0 H' Hs' Γ' F' σ' η' → D.nx σ' H'
  | .rt d => ∀ (v : V) (H' Hs' : Hp) (Fr : List Addr), Step H0 G0 H' Hs' Fr → Own c.S H' Hs' d c.nr v Fr → D.rt v H'
  | .bk η' => ∀ (σ' : L2.St) (H' Hs' : Hp) (F' : Nat → List Addr), EOk c.S H0 G0 H' Hs' c.Γb F' σ' η' → D.bk σ' H'
  | .ct η' => ∀ (σ' : L2.St) (H' Hs' : Hp) (F' : Nat → List Addr), EOk c.S H0 G0 H' Hs' c.Γc F' σ' η' → D.ct σ' H'
  | .ex e η' => ∀ (cls : Value) (dd : Option Addr) (σ' : L2.St) (H' Hs' : Hp) (F' : Nat → List Addr), clsIs c.S e cls dd → EOk c.S H0 G0 H' Hs' [] F' σ' η' → c.W cls dd σ' H'
  | .stuck => False
def tS (c : Ct) (Γ : List Nat) (m : Env → Fl) (Γ' : List Nat) : TS := fun D σ H => ∃ (H0 G0 Hs : Hp) (F : Nat → List Addr) (η : Env), EOk c.S H0 G0 H Hs Γ F σ η ∧ PostS c H0 G0 Γ' (m η) D
section
variable {c : Ct} {H0 G0 H Hs : Hp} {Γ Γ' : List Nat} {F : Nat → List Addr} {σ : L2.St} {η : Env}
theorem EOk.cold (ok : EOk c.S H0 G0 H Hs Γ F σ η) : ∃ Hs' F', EOk c.S H0 G0 H Hs' [] F' σ η ∧ Same Hs Hs' := by
  obtain ⟨Hs', F', h1, h2, _⟩ := ok.froz fun _ => false
  refine ⟨Hs', F', h1.cong fun i => ?_, h2⟩
  by_cases hi : i < Γ.length <;> simp [List.getD, hi]
/-- an expression's end in a statement -/
theorem onRes_post {α : Type} {r : Res α} {k : α → Fl} {D : Ends} (ok : EOk c.S H0 G0 H Hs Γ F σ η) (p : PostS c H0 G0 Γ' (onRes r η k) D) : Post c.S c.W σ H r fun a => PostS c H0 G0 Γ' (k a) D := by
  cases r with
  | ok a => exact p
  | exc e =>
    intro cls d H' hc sm
    -- the heap H' has all that H has
    obtain ⟨Hs', F', h1, h2⟩ := (ok.step (H1 := H') (Hs1 := Hs) (Fr := []) ⟨sm, Same.refl _, ok.sub.trans sm, fun a h1 _ => h1, fun _ z => absurd z List.not_mem_nil, List.nodup_nil⟩).cold
    exact p cls d σ H' Hs' F' hc h1
  | stuck => exact p
end
section
variable {X : Cx} {c : Ct} {W : WX} {Γ Γ' Γ1 Γ2 : List Nat} {h : Option (Nat × Addr × Er)} {a b e tg iter : Expr} {st : Stmt} {sts rest body orelse : List Stmt} {ma mb : M D} {qa : M Bool} {m m1 m2 : Env → Fl} {n na nb k i : Nat} {pos p : Pos} {x : Str} {bd : Bd} {sl : List Nat} {mi : M (List D)}
theorem ss_nil : PSs X [] (tS c Γ sNext Γ) := impSs pss_nil fun D σ H w => by
  obtain ⟨H0, G0, Hs, F, η, ok, p⟩ := w
  exact p σ H Hs F ok
theorem seq_post {H0 G0 : Hp} {η : Env} {D : Ends} (p : PostS c H0 G0 Γ2 (sSeq m1 m2 η) D) : PostS c H0 G0 Γ1 (m1 η) { D with nx := tS c Γ1 m2 Γ2 D } := by
  unfold sSeq at p
  split at p
  · rename_i η' e
    rw [e]
    exact fun σ' H' Hs' F' ok' => ⟨H0, G0, Hs', F', η', ok', p⟩
  · rename_i r hr
    cases e : m1 η with
    | nx η' => exact absurd e (hr η')
    | rt d => rw [e] at p; exact p
    | bk η' => rw [e] at p; exact p
    | ct η' => rw [e] at p; exact p
    | ex er η' => rw [e] at p; exact p
    | stuck => rw [e] at p; exact p
theorem ss_cons (h1 : PS X st (tS c Γ m1 Γ1)) (h2 : PSs X rest (tS c Γ1 m2 Γ2)) : PSs X (st :: rest) (tS c Γ (sSeq m1 m2) Γ2) := impSs (pss_cons h1 h2) fun D σ H w => by
  obtain ⟨H0, G0, Hs, F, η, ok, p⟩ := w
  exact ⟨H0, G0, Hs, F, η, ok, seq_post p⟩
theorem ss_one (h1 : PS X st (tS c Γ m Γ1)) : PSs X [st] (tS c Γ m Γ1) := pss_one h1
/-- slots are shared ahead of a statement -/
theorem ss_fz (fl : List Bool) (hG : keepG Γ (fun i => fl.getD i false) = Γ1) (h1 : PSs X sts (tS c Γ1 m Γ2)) : PSs X sts (tS c Γ m Γ2) := impSs h1 fun D σ H w => by
  obtain ⟨H0, G0, Hs, F, η, ok, p⟩ := w
  obtain ⟨Hs', F', ok', _, _⟩ := ok.froz fun i => fl.getD i false
  have ok2 : EOk c.S H0 G0 H Hs' Γ1 F' σ η := by rw [← hG]; exact ok'
  exact ⟨H0, G0, Hs', F', η, ok2, p⟩
/-- slots are shared behind a statement -/
theorem s_fz (fl : List Bool) (hG : keepG Γ1 (fun i => fl.getD i false) = Γ2) (h1 : PS X st (tS c Γ m Γ1)) : PS X st (tS c Γ m Γ2) := impS h1 fun D σ H w => by
  obtain ⟨H0, G0, Hs, F, η, ok, p⟩ := w
  refine ⟨H0, G0, Hs, F, η, ok, ?_⟩
  cases e : m η with
  | nx η' =>
    rw [e] at p
    intro σ' H' Hs' F' ok'
    obtain ⟨Hs2, F2, ok2, _, _⟩ := ok'.froz fun i => fl.getD i false
    have ok3 : EOk c.S H0 G0 H' Hs2 Γ2 F2 σ' η' := by rw [← hG]; exact ok2
    exact p σ' H' Hs2 F2 ok3
  | rt d => rw [e] at p; exact p
  | bk η' => rw [e] at p; exact p
  | ct η' => rw [e] at p; exact p
  | ex er η' => rw [e] at p; exact p
  | stuck => rw [e] at p; exact p
theorem s_pass : PS X (.Pass pos) (tS c Γ sNext Γ) := impS ps_pass fun D σ H w => by
  obtain ⟨H0, G0, Hs, F, η, ok, p⟩ := w
  exact p σ H Hs F ok
theorem s_break (hG : c.Γb = Γ := by rfl) : PS X (.Break pos) (tS c Γ sBreak Γ') := impS ps_break fun D σ H w => by
  obtain ⟨H0, G0, Hs, F, η, ok, p⟩ := w
  exact p σ H Hs F (by rw [hG]; exact ok)
theorem s_cont (hG : c.Γc = Γ := by rfl) : PS X (.Continue pos) (tS c Γ sCont Γ') := impS ps_continue fun D σ H w => by
  obtain ⟨H0, G0, Hs, F, η, ok, p⟩ := w
  exact p σ H Hs F (by rw [hG]; exact ok)
theorem s_expr (hS : c.S = sta X h) (he : PE X e (tE (sta X h) c.W Γ ma na)) (hs : swapsWith e none pos.line X.env = pure false := by rfl) : PS X (.Expr e pos) (tS c Γ (sExpr ma) Γ) := impS (ps_expr he hs) fun D σ H w => by
  obtain ⟨H0, G0, Hs, F, η, ok, p⟩ := w
  have pp := onRes_post ok p
  rw [hS] at pp ok
  refine ⟨H0, G0, Hs, F, η, ok, pp.imp fun d kk v H' Hs' Fr st' o => ?_⟩
  have ok2 : EOk c.S H0 G0 H' Hs' Γ F σ η := by rw [hS]; exact ok.step st'
  exact kk σ H' Hs' F ok2
theorem asg_of {t : TE} (hi : ∀ Q σ H, tE c.S c.W Γ ma n σ H Q → t σ H Q) (hot : ∀ j a e, c.S.hot = some (j, a, e) → j ≠ i) (hG : Γ.set i n = Γ') (hl : i < Γ.length ∨ (n = 0 ∧ Γ.getD i 0 = 0)) {D : Ends} {σ : L2.St} {H : Hp} (w : tS c Γ (sAsg ma (bName i)) Γ' D σ H) : tAsg t (gName i) D σ H := by
  obtain ⟨H0, G0, Hs, F, η, ok, p⟩ := w
  refine hi _ σ H ⟨H0, G0, Hs, F, η, ok, (onRes_post ok p).imp fun d kk v H' Hs' Fr st' o => ?_⟩
  show D.nx (σ.set i (some v)) H'
  unfold bName at kk
  by_cases hle : i < η.length
  · rw [if_pos hle] at kk
    have z := ok.bindH hot st' o hl
    rw [hG] at z
    exact kk _ _ _ _ z
  · rw [if_neg hle] at kk
    exact kk.elim
def coolAt (h : Option (Nat × Addr × Er)) (i : Nat) : Bool := match h with
  | none => true
  | some q => !(q.1 == i)
theorem coolAt_of {h : Option (Nat × Addr × Er)} {i : Nat} (e : coolAt h i = true) : ∀ (j : Nat) (a : Addr) (er : Er), h = some (j, a, er) → j ≠ i := fun j a er q => by
  subst q
  have z : (!(j == i)) = true := e
  simpa using z
theorem s_asg {p' : Pos} {h : Option (Nat × Addr × Er)} (i : Nat) (hS : c.S = sta X h) (hN : X.N.Nodup) (he : PE X e (tE (sta X h) c.W Γ ma n)) (hG : Γ.set i n = Γ' := by rfl) (hh : coolAt h i = true := by rfl) (hl : i < Γ.length ∨ (n = 0 ∧ Γ.getD i 0 = 0) := by first | exact Or.inl (by decide) | exact Or.inr ⟨rfl, rfl⟩) (hi : X.N[i]? = some x := by rfl) (hx : Loc X.env.scope x := by first | exact Or.inl rfl | exact Or.inr rfl) (hs : swapsWith e (some (.Name x p')) pos.line X.env = pure false := by rfl)
    (hf : X.fn x = true ∨ X.env.scope.names.lookup x = some .local := by first | exact .inl rfl | exact .inr rfl | assumption) : PS X (.Assign [.Name x p'] e pos) (tS c Γ (sAsg ma (bName i)) Γ') := impS (ps_set hN hi hx he hs hf) fun D σ H w =>
  asg_of (by rw [hS]; exact fun _ _ _ z => z) (by rw [hS]; exact coolAt_of hh) hG hl w
/-- y = [..] on one line -/
theorem s_asgC {py : Pos} {elt : Expr} {ifs : List Expr} {scope : Scope} {own : List (Str × Nat)} {spos : Pos} {q : M Bool} {me : M D} {ne : Nat} (i : Nat) (hS : c.S = sta X none) (hc : X.calm = true) (hN : X.N.Nodup) (hi : PI X tg iter (tI (sta X none) c.W Γ mi)) (okB : BlkOk X.N X.env.scope scope own) (hsl : ∀ j ∈ sl, j ∈ own.map (·.2))
    (hg : ∀ (s : Shared) (H : Hp) (C : Addr) (cl : List (Str × Addr)) (fp : List Addr), PG (X.blk s H scope (compEnvC scope cl C X.env) fp) tg (gB (sta X none) Γ bd sl)) (ht : ∀ (s : Shared) (H : Hp) (C : Addr) (cl : List (Str × Addr)) (fp : List Addr), PTs (X.blk s H scope (compEnvC scope cl C X.env) fp) ifs (tQ (sta X none) W0 Γ q))
    (he : ∀ (s : Shared) (H : Hp) (C : Addr) (cl : List (Str × Addr)) (fp : List Addr), PE (X.blk s H scope (compEnvC scope cl C X.env) fp) elt (tE (sta X none) W0 Γ me ne))
    (hG : Γ.set i (ne + 1) = Γ' := by rfl) (hl : i < Γ.length ∨ (ne + 1 = 0 ∧ Γ.getD i 0 = 0) := by exact Or.inl (by decide)) (hy : X.N[i]? = some x := by rfl) (hyl : X.env.scope.names.lookup x = some .local := by rfl)
    (hsw : swapsWith (.ListComp elt [⟨tg, iter, ifs, 0⟩] scope pos) (some (.Name x py)) spos.line X.env = pure true := by exact sw_true rfl rfl rfl (by decide +kernel)) (hs : ∀ z, foldedSetIterable iter X.env z = pure z := by intro _; rfl) :
    PS X (.Assign [.Name x py] (.ListComp elt [⟨tg, iter, ifs, 0⟩] scope pos) spos) (tS c Γ (sAsg (dComp mi bd q me (own.map (·.2))) (bName i)) Γ') := impS (ps_setLc hc hN hy hyl hsw hi okB hg ht he hs) fun D σ H w =>
  asg_of (fun Q σ H z => by rw [hS] at z; exact lc_of rfl hsl z) (by rw [hS]; exact coolAt_of (h := none) rfl) hG hl w
/-- a, b = e -/
theorem s_asgT (hS : c.S = sta X none) (he : PE X e (tE (sta X none) c.W Γ ma na)) (hg : PG X tg (gB (sta X none) Γ bd sl)) (hs : swapsWithSole [tg] e pos.line X.env = pure false := by rfl) (hw : swappedStores [tg] e X.env = pure none := by rfl) (h1 : (assignEach [tg] X.env).map (·.2) = [assign tg X.env] := by rfl) :
    PS X (.Assign [tg] e pos) (tS c Γ (sAsg ma bd) Γ) := impS (ps_asg he hg hs hw h1) fun D σ H w => by
  obtain ⟨H0, G0, Hs, F, η, ok, p⟩ := w
  have pp := onRes_post ok p
  rw [hS] at pp ok
  refine tE.use ok (pp.imp fun d kk v H' Hs' st' rd ok' => ?_)
  cases hb : bd d η with
  | some η1 =>
    rw [hb] at kk
    exact ⟨H0, G0, Hs', F, η, d, ok', rd, η1, hb, fun σ1 F1 ok1 _ _ => kk σ1 H' Hs' F1 (by rw [hS]; exact ok1)⟩
  | none => rw [hb] at kk; exact kk.elim
/-- a, b = x, y (plain names) -/
def sPar (i j : Nat) (a b : M D) : Env → Fl := fun η => onRes ((a η).bind fun x => (b η).bind fun y => .ok (x, y)) η fun r => if i < η.length ∧ j < η.length then .nx ((η.set i (some r.1)).set j (some r.2)) else .stuck
theorem s_par {y : Str} {px py pt : Pos} {kt k2 pt2} (i j : Nat) (hS : c.S = sta X none) (hc : X.calm = true) (hN : X.N.Nodup) (ha : PE X a (tE (sta X none) c.W Γ ma na)) (hb : PE X b (tE (sta X none) c.W Γ mb nb)) (hgi : Γ.getD i 0 = 0 := by rfl) (hgj : Γ.getD j 0 = 0 := by rfl) (hi : X.N[i]? = some x := by rfl) (hj : X.N[j]? = some y := by rfl) (hij : i ≠ j := by decide)
    (hx : X.env.scope.names.lookup x = some .local := by rfl) (hy : X.env.scope.names.lookup y = some .local := by rfl)
    (hw : swappedStores [.Tuple [.Name x px, .Name y py] kt pt] (.Tuple [a, b] k2 pt2) X.env = pure (some [x, y]) := by rfl)
    (hs : swapsWithSole [.Tuple [.Name x px, .Name y py] kt pt] (.Tuple [a, b] k2 pt2) pos.line X.env = pure false := by rfl) (h1 : starEach [a, b] X.env = (false, eval a X.env) :: starEach [b] X.env := by rfl) (h2 : starEach [b] X.env = (false, eval b X.env) :: starEach [] X.env := by rfl) :
    PS X (.Assign [.Tuple [.Name x px, .Name y py] kt pt] (.Tuple [a, b] k2 pt2) pos) (tS c Γ (sPar i j ma mb) Γ) := impS (ps_par hc hN hi hj hij hx hy (pa_cons ha (pa_cons hb pa_nil h2) h1) hw hs) fun D σ H w => by
  obtain ⟨H0, G0, Hs, F, η, ok, p⟩ := w
  have pp := onRes_post ok p
  rw [hS] at pp ok
  refine tE.use ok ((Post.bind pp).imp fun d pd v H1 Hs1 st1 rd ok1 => ?_)
  refine tE.use ok1 (((Post.bind pd).up st1.all).imp fun d2 pd2 v2 H2 Hs2 st2 rd2 ok2 => ?_)
  refine ⟨v, v2, rfl, ?_⟩
  have pd3 : PostS c H0 G0 Γ (if i < η.length ∧ j < η.length then .nx ((η.set i (some d)).set j (some d2)) else .stuck) D := pd2
  split at pd3
  · have k1 := ((ok2.bind rfl (Step.refl ok2.sub) (rd.same st2.shr).own (.inr ⟨rfl, hgi⟩))).cong fun j => (set_zero hgi j).symm
    have k2 := ((k1.bind rfl (Step.refl k1.sub) rd2.own (.inr ⟨rfl, hgj⟩))).cong fun j => (set_zero hgj j).symm
    exact pd3 _ _ _ _ (by rw [hS]; exact k2)
  · exact pd3.elim
theorem s_ret {h : Option (Nat × Addr × Er)} (hS : c.S = sta X h) (he : PE X e (tE (sta X h) c.W Γ ma c.nr)) : PS X (.Return (some e) pos) (tS c Γ (sRet ma) Γ') := impS (ps_ret he) fun D σ H w => by
  obtain ⟨H0, G0, Hs, F, η, ok, p⟩ := w
  have pp := onRes_post ok p
  rw [hS] at pp ok
  exact ⟨H0, G0, Hs, F, η, ok, pp.imp fun d kk v H' Hs' Fr st' o => kk v H' Hs' Fr (ok.st.trans st') (by rw [hS]; exact o)⟩
/-- return x, x a list of this frame's own -/
theorem s_retO {p2 : Pos} (i : Nat) (hS : c.S = sta X none) (hG : Γ.getD i 0 = c.nr := by rfl) (hN : X.N[i]? = some x := by rfl) (hv : Vis X.env.scope x := by first | exact Or.inl rfl | exact Or.inr (Or.inl rfl) | exact Or.inr (Or.inr rfl)) (hd : (x == ("__debug__" : Str)) = false := by decide) (hcd : (x == ("__classdict__" : Str)) = false := by decide) :
    PS X (.Return (some (.Name x p2)) pos) (tS c Γ (sRet (dVar i)) Γ') := impS (ps_ret (pe_var hN hv hd hcd)) fun D σ H w => by
  obtain ⟨H0, G0, Hs, F, η, ok, p⟩ := w
  have pp := onRes_post ok p
  unfold dVar at pp
  split at pp
  · rename_i d hd
    obtain ⟨v, h1, h2⟩ := ok.slot i d hd
    rw [hG] at h2
    exact ⟨v, h1, pp v H Hs (F i) ⟨ok.st.all, ok.st.shr, ok.st.sub, ok.st.new, fun a ha => ⟨(ok.hid i a ha).2.1, (ok.hid i a ha).1⟩, ok.nd i⟩ h2⟩
  · exact pp.elim
theorem s_retN : PS X (.Return none pos) (tS c Γ sRetN Γ') := impS ps_retN fun D σ H w => by
  obtain ⟨H0, G0, Hs, F, η, ok, p⟩ := w
  refine p .non H Hs [] ok.st ((Own.other rfl).mpr ⟨rfl, ?_⟩)
  unfold Rep; rfl
theorem s_if (hS : c.S = sta X h) {ce : Expr} (hq : PT X ce (tQ (sta X h) c.W Γ qa)) (ha : PSs X body (tS c Γ m1 Γ')) (hb : PSs X orelse (tS c Γ m2 Γ')) : PS X (.If ce body orelse pos) (tS c Γ (sIf qa m1 m2) Γ') := impS (ps_if hq ha hb) fun D σ H w => by
  obtain ⟨H0, G0, Hs, F, η, ok, p⟩ := w
  have pp := onRes_post ok p
  rw [hS] at pp ok
  refine tQ.use ok (pp.imp fun b kk H' Hs' st' ok' => ?_)
  have ok2 : EOk c.S H0 G0 H' Hs' Γ F σ η := by rw [hS]; exact ok'
  cases b with
  | true => exact ⟨H0, G0, Hs', F, η, ok2, kk⟩
  | false => exact ⟨H0, G0, Hs', F, η, ok2, kk⟩
/-- x.append(e) -/
theorem s_app {apos cpos p2 : Pos} {n : Nat} (k : Nat) (hS : c.S = sta X none) (he : PE X e (tE (sta X none) c.W Γ ma n)) (hG : Γ.getD k 0 = n + 1 := by rfl) (hN : X.N[k]? = some x := by rfl) (hv : Vis X.env.scope x := by first | exact Or.inl rfl | exact Or.inr (Or.inl rfl) | exact Or.inr (Or.inr rfl)) (hd : (x == ("__debug__" : Str)) = false := by decide) (hcd : (x == ("__classdict__" : Str)) = false := by decide)
    (hbase : attributeBase (.Name x p2) "append" X.env (eval (.Name x p2) X.env) = eval (.Name x p2) X.env := by rfl)
    (hfew : ((backTo cpos (starEach [e] X.env)).all (fun x => !x.1) && (backToKw cpos (keywordEach [] X.env)).all (fun x => x.1.isSome) && decide ([e].length + ([] : List Keyword).length + (if ([] : List Keyword).isEmpty then 0 else 1) < 30)) = true := by rfl)
    (hline : (apos.endLine == cpos.line) = true := by rfl) (hse : starEach [e] X.env = (false, eval e X.env) :: starEach [] X.env := by rfl) (hplain : (backTo cpos (starEach [] X.env)).any (·.1) = false := by rfl)
    (hs : swapsWith (.Call (.Attribute (.Name x p2) "append" apos) [e] [] cpos) none pos.line X.env = pure false := by rfl) :
    PS X (.Expr (.Call (.Attribute (.Name x p2) "append" apos) [e] [] cpos) pos) (tS c Γ (sApp k ma) Γ) :=
  impS (ps_expr (pe_bm PySem.F.plainAttrs_list PySem.F.slot_list_append PySem.F.type_list_append (id mt_append) (pe_var hN hv hd hcd) (pa_cons he pa_nil hse) hbase hfew hline hse hplain) hs) fun D σ H w => by
    obtain ⟨H0, G0, Hs, F, η, ok, p⟩ := w
    obtain ⟨xs, e1, px⟩ := lstAt_ok (onRes_post ok p)
    rw [hS] at ok
    obtain ⟨l, vs, G, h1, h2, h3, h4⟩ := own_at ok hG e1
    refine ⟨.ref l, h1, Or.inl ⟨rfl, vs, SqL.of h3⟩, ?_⟩
    have ok' : EOk c.S H0 G0 H Hs Γ F σ η := by rw [hS]; exact ok
    have pp := onRes_post ok' px
    rw [hS] at pp
    refine ⟨H0, G0, Hs, F, η, ok, pp.imp fun d kk v H' Hs' Fr st' o => ?_⟩
    split at kk
    · rename_i hl
      have h3' : H' l = some (.lst vs) := st'.all _ _ h3
      refine ⟨l, vs, v, rfl, rfl, h3', by rw [h4.length, ← line_eq]; exact hl, ?_⟩
      have okn := ok.step st'
      have hk : k < η.length := (List.getElem?_eq_some_iff.mp e1).1
      have lF : l ∈ F k := by rw [h2]; exact List.mem_cons_self
      have nlF : l ∉ Fr := fun q => by rw [(st'.fr l q).1] at h3; cases h3
      -- the shared part and the rest stand
      have eo : EOk (sta X none) H0 G0 (upd H' l (.lst (vs ++ [v]))) Hs' Γ (fun j => if j = k then l :: (G ++ Fr) else F j) σ (η.set k (some (.lst (xs ++ [d])))) := by
        have hidl := okn.hid k l lF
        refine ⟨⟨fun b u q => ?_, okn.st.shr, fun b u q => ?_, okn.st.new, fun _ z => absurd z List.not_mem_nil, List.nodup_nil⟩, by rw [List.length_set, okn.len], fun j z hz => ?_, fun j b hb => ?_, fun j1 j2 b hb1 hb2 => ?_, fun j => ?_, fun _ _ _ q => by cases q⟩
        · rw [upd_ne (ne_of_none q hidl.2.1)]; exact okn.st.all b u q
        · have nb : b ≠ l := fun z => by rw [z, hidl.1] at q; cases q
          rw [upd_ne nb]; exact okn.st.sub b u q
        · rw [List.getElem?_set] at hz
          by_cases hj : k = j
          · subst hj
            rw [if_pos rfl, if_pos hk] at hz
            have ez : VL.D.lst (xs ++ [d]) = z := by simpa using hz
            subst ez
            refine ⟨.ref l, h1, ?_⟩
            rw [hG, if_pos rfl]
            refine Own.succ.mpr ⟨l, vs ++ [v], G ++ Fr, rfl, rfl, upd_same, ?_⟩
            have m1 : Owns (sta X none) H' Hs' xs n vs G := h4.move st'.shr _ _ _ _ fun a ha => by
              obtain ⟨u, hu⟩ := h4.there a ha
              rw [hu, st'.all a u hu]
            refine (m1.append (Owns.one o)).move (Same.refl _) _ _ _ _ fun a ha => upd_ne fun q => ?_
            subst q
            rcases List.mem_append.mp ha with ha | ha
            · have nd := okn.nd k
              rw [h2] at nd
              exact (List.nodup_cons.mp nd).1 ha
            · exact nlF ha
          · rw [if_neg hj] at hz
            obtain ⟨w, q1, q2⟩ := okn.slot j z hz
            refine ⟨w, q1, ?_⟩
            rw [if_neg (Ne.symm hj)]
            exact q2.move (Same.refl _) _ _ _ _ fun a ha => upd_ne fun q => by
              subst q
              exact hj (okn.disj k j a lF ha)
        · by_cases hj : j = k
          · rw [if_pos hj] at hb
            have cases3 : b = l ∨ b ∈ G ∨ b ∈ Fr := by
              rcases List.mem_cons.mp hb with q | hb
              · exact .inl q
              · exact .inr (List.mem_append.mp hb)
            rcases cases3 with q | q | q
            · rw [q]; exact ⟨hidl.1, hidl.2.1, _, upd_same⟩
            · have z := okn.hid k b (by rw [h2]; exact List.mem_cons_of_mem _ q)
              refine ⟨z.1, z.2.1, ?_⟩
              by_cases bl : b = l
              · rw [bl]; exact ⟨_, upd_same⟩
              · rw [upd_ne bl]; exact z.2.2
            · obtain ⟨u, hu⟩ := o.there d n v Fr b q
              refine ⟨(st'.fr b q).2, ok.st.all.free (st'.fr b q).1, ?_⟩
              rw [upd_ne (fun z => nlF (by rw [← z]; exact q))]
              exact ⟨u, hu⟩
          · rw [if_neg hj] at hb
            have z := okn.hid j b hb
            refine ⟨z.1, z.2.1, ?_⟩
            rw [upd_ne (fun q => hj (okn.disj j k b hb (by rw [q]; exact lF)))]
            exact z.2.2
        · have key : ∀ j b, b ∈ (if j = k then l :: (G ++ Fr) else F j) → b ∈ F j ∨ (j = k ∧ b ∈ Fr) := fun j b hb => by
            by_cases hj : j = k
            · rw [if_pos hj] at hb
              rcases List.mem_cons.mp hb with q | hb
              · left; rw [q, hj]; exact lF
              · rcases List.mem_append.mp hb with q | q
                · left; rw [hj, h2]; exact List.mem_cons_of_mem _ q
                · exact .inr ⟨hj, q⟩
            · rw [if_neg hj] at hb; exact .inl hb
          have no : ∀ j b, b ∈ F j → b ∉ Fr := fun j b hb q => by
            obtain ⟨_, _, u, hu⟩ := ok.hid j b hb
            rw [(st'.fr b q).1] at hu; cases hu
          rcases key j1 b hb1 with q1 | ⟨q1, r1⟩ <;> rcases key j2 b hb2 with q2 | ⟨q2, r2⟩
          · exact okn.disj j1 j2 b q1 q2
          · exact absurd r2 (no j1 b q1)
          · exact absurd r1 (no j2 b q2)
          · rw [q1, q2]
        · by_cases hj : j = k
          · simp only [hj, if_true]
            have nd := okn.nd k
            rw [h2] at nd
            obtain ⟨n1, n2⟩ := List.nodup_cons.mp nd
            refine List.nodup_cons.mpr ⟨fun q => ?_, List.nodup_append.mpr ⟨n2, st'.nd, fun x hx y hy q => ?_⟩⟩
            · rcases List.mem_append.mp q with q | q
              · exact n1 q
              · exact nlF q
            · subst q
              obtain ⟨_, _, u, hu⟩ := ok.hid k x (by rw [h2]; exact List.mem_cons_of_mem _ hx)
              rw [(st'.fr x hy).1] at hu; cases hu
          · simp only [hj, if_false]; exact okn.nd j
      exact kk σ _ Hs' _ (by rw [hS]; exact eo)
    · exact kk.elim
end
end VL
/-! VLSt2: stores, loops, errors, defs. -/
namespace VL
open PySem PySem.Spec L2
section
variable {X : Cx} {c : Ct} {W : WX} {Γ Γ' Γ1 Γ2 : List Nat} {h : Option (Nat × Addr × Er)} {a b e tg iter : Expr} {st : Stmt} {sts rest body orelse : List Stmt} {ma mb : M D} {qa : M Bool} {m m1 m2 : Env → Fl} {n na nb k i : Nat} {pos p : Pos} {x : Str} {bd : Bd} {sl : List Nat} {mi : M (List D)}
/-- the owned list in the slot k holds ys now (items shared) -/
theorem EOk.list1 {S : Sta} {H0 G0 H Hs : Hp} {F : Nat → List Addr} {σ : L2.St} {η : Env} {l : Addr} {ws : List V} {xs ys : List D} (ok : EOk S H0 G0 H Hs Γ F σ η) (hot : S.hot = none) (hG : Γ.getD k 0 = 1) (h1 : σ[k]? = some (some (.ref l))) (h2 : F k = [l]) (e1 : η[k]? = some (some (.lst xs))) (r : Reps S Hs ys ws) :
    EOk S H0 G0 (upd H l (.lst ws)) Hs Γ F σ (η.set k (some (.lst ys))) where
  st := by
    have lF : l ∈ F k := by rw [h2]; exact List.mem_cons_self
    obtain ⟨q1, q2, q3⟩ := ok.hid k l lF
    refine ⟨fun b u q => ?_, ok.st.shr, fun b u q => ?_, ok.st.new, fun _ z => absurd z List.not_mem_nil, List.nodup_nil⟩
    · rw [upd_ne (ne_of_none q q2)]; exact ok.st.all b u q
    · have nb : b ≠ l := fun z => by rw [z, q1] at q; cases q
      rw [upd_ne nb]; exact ok.st.sub b u q
  len := by rw [List.length_set, ok.len]
  slot := fun j z hz => by
    have lF : l ∈ F k := by rw [h2]; exact List.mem_cons_self
    have hk : k < η.length := (List.getElem?_eq_some_iff.mp e1).1
    rw [List.getElem?_set] at hz
    by_cases hj : k = j
    · subst hj
      rw [if_pos rfl, if_pos hk] at hz
      have ez : VL.D.lst ys = z := by simpa using hz
      subst ez
      refine ⟨.ref l, h1, ?_⟩
      rw [hG, h2]
      exact Own.succ.mpr ⟨l, ws, [], rfl, rfl, upd_same, Owns.of_reps r⟩
    · rw [if_neg hj] at hz
      obtain ⟨w, q1, q2⟩ := ok.slot j z hz
      refine ⟨w, q1, q2.move (Same.refl _) _ _ _ _ fun a ha => upd_ne fun q => ?_⟩
      subst q
      exact hj (ok.disj k j a lF ha)
  hid := fun j b hb => by
    obtain ⟨q1, q2, u, hu⟩ := ok.hid j b hb
    refine ⟨q1, q2, ?_⟩
    by_cases bl : b = l
    · rw [bl]; exact ⟨_, upd_same⟩
    · rw [upd_ne bl]; exact ⟨u, hu⟩
  disj := ok.disj
  nd := ok.nd
  hot := fun _ _ _ q => by rw [hot] at q; cases q
theorem setD_ok {xs ys : List D} {i : Int} {d : D} (e : setD xs i d = some ys) : ∃ j, ixN xs.length i = some j ∧ ys = xs.set j d := by
  unfold setD at e
  obtain ⟨j, e1, e2⟩ := Option.map_eq_some_iff.mp e
  exact ⟨j, e1, e2.symm⟩
/-- x[i] = e, x a list of this frame's own whose items are shared -/
theorem s_set {p2 pt : Pos} (k : Nat) (hS : c.S = sta X none) (he : PE X e (tE (sta X none) c.W Γ ma na)) (hb : PE X b (tE (sta X none) c.W Γ mb nb)) (hG : Γ.getD k 0 = 1 := by rfl) (hN : X.N[k]? = some x := by rfl) (hv : Vis X.env.scope x := by first | exact Or.inl rfl | exact Or.inr (Or.inl rfl) | exact Or.inr (Or.inr rfl)) (hd : (x == ("__debug__" : Str)) = false := by decide) (hcd : (x == ("__classdict__" : Str)) = false := by decide)
    (hs : swapsWithSole [.Subscript (.Name x p2) b pt] e pos.line X.env = pure false := by rfl) (hw : swappedStores [.Subscript (.Name x p2) b pt] e X.env = pure none := by rfl) (h1 : (assignEach [.Subscript (.Name x p2) b pt] X.env).map (·.2) = [assign (.Subscript (.Name x p2) b pt) X.env] := by rfl)
    (hpg : ∀ {to ti : TE}, PE X (.Name x p2) to → PE X b ti → PG X (.Subscript (.Name x p2) b pt) (gSub to ti rSetL) := by intro _ _ h1 h2; exact pg_sub h1 h2 set_list) :
    PS X (.Assign [.Subscript (.Name x p2) b pt] e pos) (tS c Γ (sSet k mb ma) Γ) := impS (ps_asg he (hpg (pe_var hN hv hd hcd) hb) hs hw h1) fun D σ H w => by
  obtain ⟨H0, G0, Hs, F, η, ok, p⟩ := w
  have pp := onRes_post ok p
  rw [hS] at pp ok
  refine tE.use ok (pp.imp fun d kk v H1 Hs1 st1 rd ok1 => ?_)
  have okc : EOk c.S H0 G0 H1 Hs1 Γ F σ η := by rw [hS]; exact ok1
  obtain ⟨xs, e1, px⟩ := lstAt_ok (onRes_post okc kk)
  obtain ⟨l, vs, G, q1, q2, q3, q4⟩ := own_at ok1 hG e1
  obtain ⟨rfl, r4⟩ := q4.reps
  have pp2 := onRes_post okc px
  rw [hS] at pp2
  refine ⟨.ref l, q1, tE.use ok1 (pp2.imp fun y ky u H2 Hs2 st2 ru ok2 => ?_)⟩
  cases y <;> first | exact ky.elim | skip
  rename_i z
  have ky' : PostS c H0 G0 Γ (match setD xs z d with | some ys => Fl.nx (η.set k (some (.lst ys))) | none => .stuck) D := ky
  split at ky'
  · rename_i ys hy
    obtain ⟨j, hj, rfl⟩ := setD_ok hy
    unfold Rep at ru
    have r4' := r4.same st2.shr
    have q3' : H2 l = some (.lst vs) := st2.all _ _ q3
    refine ⟨l, vs, z, j, rfl, ru, q3', by rw [r4.length]; exact hj, ?_⟩
    have z := ok2.list1 rfl hG q1 q2 e1 (r4'.set j (rd.same st2.shr))
    exact ky' σ _ Hs2 F (by rw [hS]; exact z)
  · exact ky'.elim
/-- x op= e -/
theorem pip_of {op : Operator} {r : R2} (h : OpR X (inplaceOp op) r) : PIp X op r := h
theorem s_aug {op : Operator} {r : R2} {f : D → D → Res D} {p2 : Pos} (i : Nat) (hS : c.S = sta X none) (hN : X.N.Nodup) (ho : OpR X (inplaceOp op) r) (hf : OpD (sta X none) r f 0) (he : PE X e (tE (sta X none) c.W Γ ma na)) (hg : Γ.getD i 0 = 0 := by rfl) (hi : X.N[i]? = some x := by rfl) (hx : Loc X.env.scope x := by first | exact Or.inl rfl | exact Or.inr rfl)
    (hfn : X.fn x = true ∨ X.env.scope.names.lookup x = some .local := by first | exact .inl rfl | exact .inr rfl | assumption) : PS X (.AugAssign (.Name x p2) op e pos) (tS c Γ (sAug i f ma) Γ) := impS (ps_aug hN hi hx he (pip_of ho) hfn) fun D σ H w => by
  obtain ⟨H0, G0, Hs, F, η, ok, p⟩ := w
  have pp := onRes_post ok p
  rw [hS] at pp ok
  have pv := Post.bind pp
  unfold dVar at pv
  split at pv
  · rename_i d hd
    obtain ⟨v, h1, h2⟩ := ok.slot i d hd
    rw [hg] at h2
    obtain ⟨-, h3⟩ := Own.zero.mp h2
    have pv' : Post (sta X none) c.W σ H ((ma η).bind fun y => f d y) _ := pv
    refine ⟨v, h1, tE.use ok ((Post.bind pv').imp fun y py u H1 Hs1 st1 r1 ok1 => ?_)⟩
    refine hf c.W σ H1 Hs1 d y v u _ ok1.sub (h3.same st1.shr) r1 ((py.up st1.all).imp fun z kk v2 H2 Hs2 Fr st2 o2 => ?_)
    have hle : i < η.length := (List.getElem?_eq_some_iff.mp hd).1
    rw [if_pos hle] at kk
    have z := (ok1.bind rfl st2 o2 (.inr ⟨rfl, hg⟩)).cong fun j => (set_zero hg j).symm
    exact kk _ H2 Hs2 _ (by rw [hS]; exact z)
  · exact pv.elim
/-! entered anew: what is shared now is the ground -/
def joinH (H0 Hs : Hp) : Hp := fun a => match Hs a with
  | some o => some o
  | none => H0 a
section
variable {S : Sta} {H0 G0 H2 Hs2 H' Hs' : Hp} {F F' : Nat → List Addr} {σ σ' : L2.St} {η η' : Env} {Fr : List Addr}
theorem join_none {a : Addr} (h : joinH H0 Hs2 a = none) : Hs2 a = none ∧ H0 a = none := by
  unfold joinH at h
  split at h
  · cases h
  · rename_i e; exact ⟨e, h⟩
theorem EOk.enter (ok : EOk S H0 G0 H2 Hs2 Γ F σ η) : EOk S (joinH H0 Hs2) Hs2 H2 Hs2 Γ F σ η :=
  ⟨⟨fun a o e => by
    unfold joinH at e
    split at e
    · rename_i q; cases e; exact ok.sub a _ q
    · exact ok.st.all a o e, Same.refl _, ok.sub, fun a h _ => h, fun _ z => absurd z List.not_mem_nil, List.nodup_nil⟩, ok.len, ok.slot, fun i a ha => by
    obtain ⟨h1, h2, h3⟩ := ok.hid i a ha
    refine ⟨h1, ?_, h3⟩
    unfold joinH
    rw [h1]
    exact h2, ok.disj, ok.nd, ok.hot⟩
theorem Step.leave (ok : EOk S H0 G0 H2 Hs2 Γ F σ η) (s : Step (joinH H0 Hs2) Hs2 H' Hs' Fr) : Step H0 G0 H' Hs' Fr := by
  have sj : Same H0 (joinH H0 Hs2) := fun a o e => by
    unfold joinH
    split
    · rename_i u q
      have h1 := ok.sub a u q
      have h2 := ok.st.all a o e
      rw [h1] at h2
      exact h2
    · exact e
  exact ⟨sj.trans s.all, ok.st.shr.trans s.shr, s.sub, fun a h1 ⟨o, h2⟩ => s.new a (ok.st.new a h1 ⟨o, h2⟩) ⟨o, sj a o h2⟩, fun a ha => ⟨(join_none (s.fr a ha).1).2, (s.fr a ha).2⟩, s.nd⟩
theorem EOk.leave (ok : EOk S H0 G0 H2 Hs2 Γ F σ η) (ok' : EOk S (joinH H0 Hs2) Hs2 H' Hs' Γ' F' σ' η') : EOk S H0 G0 H' Hs' Γ' F' σ' η' :=
  ⟨Step.leave ok ok'.st, ok'.len, ok'.slot, fun i a ha => by
    obtain ⟨h1, h2, h3⟩ := ok'.hid i a ha
    exact ⟨h1, (join_none h2).2, h3⟩, ok'.disj, ok'.nd, ok'.hot⟩
end
theorem s_for (fl : List Bool) (hS : c.S = sta X none) (hp : PassesOwn (model X.prog X.w) X.A X.env X.xe) (hc : X.calm = true) (hi : PI X tg iter (tI (sta X none) c.W Γ mi)) (hg : PG X tg (gB (sta X none) Γ bd sl)) (hG : keepG Γ (fun i => fl.getD i false) = Γ')
    (hb : PSs X body (tS { c with Γb := Γ', Γc := Γ } Γ m Γ)) (hs : ∀ z, foldedSetIterable iter X.env z = pure z := by intro _; rfl) : PS X (.For tg iter body [] pos) (tS c Γ (sFor mi bd m) Γ') := impS (ps_for hp hc hi hg hb hs) fun D σ H w => by
  obtain ⟨H0, G0, Hs, F, η, ok, p⟩ := w
  have pp := onRes_post ok p
  have okS := ok
  rw [hS] at pp ok
  refine ⟨H0, G0, Hs, F, η, ok, pp.imp fun ds kk J H1 Hs1 st1 wk => ?_⟩
  have ok1 := ok.step st1
  refine ⟨fun i mm σ' H' => mm = ds.length - i ∧ i ≤ ds.length ∧ ∃ (Hs' : Hp) (F' : Nat → List Addr) (η' : Env), EOk (sta X none) H0 G0 H' Hs' Γ F' σ' η' ∧ Same Hs1 Hs' ∧ PostS c H0 G0 Γ' (forGo bd m (ds.drop i) η') D, ⟨ds.length, rfl, Nat.zero_le _, Hs1, F, η, ok1, Same.refl _, kk⟩, ?_⟩
  rintro i mm σ' H' ⟨rfl, hi, Hs', F', η', ok', sm, go⟩
  obtain ⟨wk1, wk2⟩ := wk i H' Hs' sm ok'.sub
  by_cases hlt : i < ds.length
  · right
    have hx : ds[i]? = some ds[i] := List.getElem?_eq_getElem hlt
    obtain ⟨g1, g2⟩ := wk1 _ hx
    have hdrop : ds.drop i = ds[i] :: ds.drop (i + 1) := List.drop_eq_getElem_cons hlt
    rw [hdrop] at go
    unfold forGo at go
    refine ⟨g1, fun σ2 H2 => ∃ (Hs' : Hp) (F' : Nat → List Addr) (η' : Env), EOk (sta X none) H0 G0 H2 Hs' Γ F' σ2 η' ∧ Same Hs1 Hs' ∧ PostS c H0 G0 Γ' (forGo bd m (ds.drop (i + 1)) η') D, fun σ2 H2 h2 => ⟨ds.length - (i + 1), by omega, rfl, hlt, h2⟩, fun x H2 yl => ?_⟩
    obtain ⟨Hs2, st2, rx⟩ := g2 x H2 yl
    split at go
    · rename_i η1 hbd
      refine ⟨H0, G0, Hs2, F', η', ds[i], ok'.step st2, rx, η1, hbd, fun σ3 F3 ok3 _ _ => ?_⟩
      have okc : EOk c.S H0 G0 H2 Hs2 Γ F3 σ3 η1 := by rw [hS]; exact ok3
      refine ⟨joinH H0 Hs2, Hs2, Hs2, F3, η1, okc.enter, ?_⟩
      have next : ∀ {η5 : Env}, PostS c H0 G0 Γ' (forGo bd m (ds.drop (i + 1)) η5) D → ∀ (σ' : L2.St) (H' Hs' : Hp) (F' : Nat → List Addr), EOk c.S (joinH H0 Hs2) Hs2 H' Hs' Γ F' σ' η5 →
          ∃ (Hs' : Hp) (F' : Nat → List Addr) (η' : Env), EOk (sta X none) H0 G0 H' Hs' Γ F' σ' η' ∧ Same Hs1 Hs' ∧ PostS c H0 G0 Γ' (forGo bd m (ds.drop (i + 1)) η') D := fun {η5} q σ5 H5 Hs5 F5 ok5 =>
        ⟨Hs5, F5, η5, by rw [← hS]; exact okc.leave ok5, sm.trans (st2.shr.trans ok5.st.shr), q⟩
      cases e : m η1 with
      | nx η5 => rw [e] at go; exact next go
      | ct η5 => rw [e] at go; exact next go
      | bk η5 =>
        rw [e] at go
        exact fun σ5 H5 Hs5 F5 ok5 => go σ5 H5 Hs5 F5 (okc.leave ok5)
      | rt d =>
        rw [e] at go
        exact fun v H5 Hs5 Fr s5 o5 => go v H5 Hs5 Fr (Step.leave okc s5) o5
      | ex er η5 =>
        rw [e] at go
        exact fun cls dd σ5 H5 Hs5 F5 hcl ok5 => go cls dd σ5 H5 Hs5 F5 hcl (okc.leave ok5)
      | stuck => rw [e] at go; exact go
    · exact go.elim
  · left
    have e : i = ds.length := by omega
    subst e
    refine ⟨wk2 (List.getElem?_eq_none (Nat.le_refl _)), ?_⟩
    rw [List.drop_length] at go
    have go' : ∀ (σ' : L2.St) (H' Hs' : Hp) (F' : Nat → List Addr), EOk c.S H0 G0 H' Hs' Γ' F' σ' η' → D.nx σ' H' := go
    obtain ⟨Hs2, F2, ok2, _, _⟩ := ok'.froz fun i => fl.getD i false
    have ok3 : EOk c.S H0 G0 H' Hs2 Γ' F2 σ' η' := by rw [hS, ← hG]; exact ok2
    exact go' σ' H' Hs2 F2 ok3
theorem whileGo_mono {q : M Bool} {m : Env → Fl} : ∀ (n k : Nat) (η : Env), n ≤ k → whileGo q m n η ≠ .stuck → whileGo q m k η = whileGo q m n η
  | 0, _, _, _, h => absurd rfl h
  | n + 1, 0, _, hk, _ => absurd hk (by omega)
  | n + 1, k + 1, η, hk, h => by
    unfold whileGo at h ⊢
    cases hq : q η with
    | ok b =>
      rw [hq] at h
      cases b with
      | false => rfl
      | true =>
        have h' : (match m η with | .nx η' => whileGo q m n η' | .ct η' => whileGo q m n η' | .bk η' => .nx η' | r => r) ≠ .stuck := h
        show (match m η with | .nx η' => whileGo q m k η' | .ct η' => whileGo q m k η' | .bk η' => .nx η' | r => r) = (match m η with | .nx η' => whileGo q m n η' | .ct η' => whileGo q m n η' | .bk η' => .nx η' | r => r)
        cases e : m η with
        | nx η' => rw [e] at h'; exact whileGo_mono n k η' (by omega) h'
        | ct η' => rw [e] at h'; exact whileGo_mono n k η' (by omega) h'
        | bk η' => rfl
        | rt d => rfl
        | ex er η' => rfl
        | stuck => rfl
    | exc er => rfl
    | stuck => rfl
theorem sWhile_eq {q : M Bool} {m : Env → Fl} {η : Env} (n : Nat) (h : whileGo q m n η ≠ .stuck) : sWhile q m η = whileGo q m n η := by
  classical
  have ex : ∃ n, whileGo q m n η ≠ .stuck := ⟨n, h⟩
  have e : sWhile q m η = whileGo q m (Classical.choose ex) η := by
    unfold sWhile
    rw [dif_pos ex]
  rw [e]
  have h2 := Classical.choose_spec ex
  rcases Nat.le_total n (Classical.choose ex) with hl | hl
  · exact whileGo_mono n _ η hl h
  · exact (whileGo_mono _ n η hl h2).symm
theorem s_while {ce : Expr} (fl : List Bool) (hS : c.S = sta X none) (hp : PassesOwn (model X.prog X.w) X.A X.env X.xe) (hq : PT X ce (tQ (sta X none) c.W Γ qa)) (hG : keepG Γ (fun i => fl.getD i false) = Γ')
    (hb : PSs X body (tS { c with Γb := Γ', Γc := Γ } Γ m Γ)) : PS X (.While ce body [] pos) (tS c Γ (sWhile qa m) Γ') := impS (ps_while hp hq hb) fun D σ H w => by
  obtain ⟨H0, G0, Hs, F, η, ok, p⟩ := w
  obtain ⟨n0, hn0⟩ : ∃ n, whileGo qa m n η ≠ .stuck := by
    by_cases ex : ∃ n, whileGo qa m n η ≠ .stuck
    · exact ex
    · have e : sWhile qa m η = .stuck := by
        classical
        unfold sWhile
        rw [dif_neg ex]
      rw [e] at p
      exact p.elim
  rw [sWhile_eq n0 hn0] at p
  refine ⟨fun n σ' H' => ∃ (Hs' : Hp) (F' : Nat → List Addr) (η' : Env), EOk c.S H0 G0 H' Hs' Γ F' σ' η' ∧ PostS c H0 G0 Γ' (whileGo qa m n η') D, ⟨n0, Hs, F, η, ok, p⟩, ?_⟩
  rintro n σ1 H1 ⟨Hs1, F1, η1, ok1, p1⟩
  cases n with
  | zero => exact p1.elim
  | succ n =>
    unfold whileGo at p1
    have pp := onRes_post ok1 p1
    have okx := ok1
    rw [hS] at pp ok1
    refine tQ.use ok1 (pp.imp fun b kk H2 Hs2 st2 ok2 => ?_)
    have okc : EOk c.S H0 G0 H2 Hs2 Γ F1 σ1 η1 := by rw [hS]; exact ok2
    cases b with
    | true =>
      rw [if_pos rfl]
      have kk' : PostS c H0 G0 Γ' (match m η1 with | .nx η' => whileGo qa m n η' | .ct η' => whileGo qa m n η' | .bk η' => .nx η' | r => r) D := kk
      refine ⟨fun σ' H' => ∃ (Hs' : Hp) (F' : Nat → List Addr) (η' : Env), EOk c.S H0 G0 H' Hs' Γ F' σ' η' ∧ PostS c H0 G0 Γ' (whileGo qa m n η') D, fun σ' H' h => ⟨n, Nat.lt_succ_self _, h⟩, H0, G0, Hs2, F1, η1, okc, ?_⟩
      cases e : m η1 with
      | nx η5 => rw [e] at kk'; exact fun σ5 H5 Hs5 F5 ok5 => ⟨Hs5, F5, η5, ok5, kk'⟩
      | ct η5 => rw [e] at kk'; exact fun σ5 H5 Hs5 F5 ok5 => ⟨Hs5, F5, η5, ok5, kk'⟩
      | bk η5 => rw [e] at kk'; exact kk'
      | rt d => rw [e] at kk'; exact kk'
      | ex er η5 => rw [e] at kk'; exact kk'
      | stuck => rw [e] at kk'; exact kk'
    | false =>
      rw [if_neg Bool.false_ne_true]
      have kk' : ∀ (σ' : L2.St) (H' Hs' : Hp) (F' : Nat → List Addr), EOk c.S H0 G0 H' Hs' Γ' F' σ' η1 → D.nx σ' H' := kk
      obtain ⟨Hs3, F3, ok3, _, _⟩ := okc.froz fun i => fl.getD i false
      exact kk' σ1 H2 Hs3 F3 (by rw [← hG]; exact ok3)
/-! ### errors -/
/-- what the written part says of an error's class -/
structure ErC (K : PySem.W.Frag) (mg : Str → Option Value) (e : Er) (C : Addr) : Prop where
  g : mg e.name = some (.ref C)
  x : PySem.W.excIn K C He.veBase "ValueError.__new__" = true
  k : PySem.W.keepIn K (.ref C) = true
  s : PySem.W.subIn K (.ref C) (.type "BaseException") = some true
  t : PySem.W.typeIn K (.ref C) = some (.type "type")
theorem s_raise {x m' : Str} {j : Nat} {p1 p2 p3 : Pos} {C : Addr} (er : Er) (hx : er.name = x) (hS : c.S = sta X none) (hc : X.calm = true) (tk : Takes X c.W) (E : ErC X.K X.mg er C) (hg : Gl X x := by rfl) (hdb : (x == ("__debug__" : Str)) = false := by decide) :
    PS X (.Raise (some (.Call (.Name x p1) [.Constant (.str m') j p2] [] p3)) none pos) (tS c Γ (sRaise er) Γ') := by
  subst hx
  refine impS (ps_raise hc tk (pmk_own PySem.F.excBase_ValueError E.x E.g E.k (raises_own E.s E.t) hg hdb)) fun D σ H w => ?_
  obtain ⟨H0, G0, Hs, F, η, ok, p⟩ := w
  obtain ⟨Hs', F', h1, h2⟩ := ok.cold
  exact p (.ref C) none σ H Hs' F' ⟨rfl, C, rfl, by rw [hS]; exact E.g⟩ h1
end
end VL
/-! VLFn: try, isinstance of an error, defs. -/
namespace VL
open PySem PySem.Spec L2
/-- what the written part says of the errors' classes -/
structure ErT (K : PySem.W.Frag) (mg : Str → Option Value) : Prop where
  kit : ∀ (e c : Er) (A B : Addr), mg e.name = some (.ref A) → mg c.name = some (.ref B) → e.own = true → c.own = true → PySem.W.kitOne K (.ref A) (.ref B) = some (e.sub c)
  exm : ∀ (e c : Er) (A B : Addr), mg e.name = some (.ref A) → mg c.name = some (.ref B) → e.own = true → c.own = true → PySem.W.exmOne K (.ref A) (.ref B) = some (e.sub c)
  kitV : ∀ (e : Er) (A : Addr), mg e.name = some (.ref A) → e.own = true → PySem.W.kitOne K (.ref A) (.type "ValueError") = some true
  exc : ∀ (e : Er) (A : Addr), mg e.name = some (.ref A) → e.own = true → ExcC K A
  erc : ∀ (e : Er) (A : Addr), mg e.name = some (.ref A) → e.own = true → ErC K mg e A
theorem bt_ve : bootBuiltins "ValueError" = some (.type "ValueError") := by decide +kernel
section
variable {X : Cx} {c : Ct} {W : WX} {Γ Γ' Γ1 Γ2 Γh Γh' : List Nat} {a b e tg iter : Expr} {st b₀ : Stmt} {sts rest body suite : List Stmt} {ma mb : M D} {qa : M Bool} {m m1 m2 : Env → Fl} {n na nb k i : Nat} {pos pos' p p1 p2 np : Pos} {x y : Str}
theorem allz {l : List Nat} (h : l.all (· == 0) = true) : ∀ i, l.getD i 0 = 0 := fun i => by
  by_cases hi : i < l.length
  · have z := List.all_eq_true.mp h l[i] (List.getElem_mem hi)
    have z2 : l[i] = 0 := by simpa using z
    simp [List.getD, hi, z2]
  · simp [List.getD, hi]
theorem e_isEr {AE AC : Addr} {a : Addr} {oe : Obj} {pn : List (Addr × Obj)} {er : Er} (cr : Er) (i : Nat) (T : ErT X.K X.mg) (hz : Zc (.ref AE) none oe) (hf : ∃ vs, oe.data = .fields vs) (gE : X.mg er.name = some (.ref AE)) (ho : er.own = true) (gC : X.mg y = some (.ref AC)) (hcr : cr.name = y := by rfl) (hcro : cr.own = true := by rfl) (hm : X.mg "isinstance" = none)
    (hN : X.N[i]? = some x := by rfl) (hv : Vis X.env.scope x := by first | exact Or.inl rfl | exact Or.inr (Or.inl rfl) | exact Or.inr (Or.inr rfl)) (hd : (x == ("__debug__" : Str)) = false := by decide) (hcd : (x == ("__classdict__" : Str)) = false := by decide) (hg : Gl X "isinstance" := by rfl) (hgy : Gl X y := by rfl) (hdy : (y == ("__debug__" : Str)) = false := by decide)
    (hs : starEach [.Name x p1, .Name y p2] X.env = (false, eval (.Name x p1) X.env) :: starEach [.Name y p2] X.env := by rfl) (hs2 : starEach [.Name y p2] X.env = (false, eval (.Name y p2) X.env) :: starEach [] X.env := by rfl) (hpl : (backTo pos (starEach [.Name y p2] X.env)).any (·.1) = false := by rfl) :
    PE (X.suite a ((a, oe) :: pn)) (.Call (.Name "isinstance" p) [.Name x p1, .Name y p2] [] pos) (tE (sta X (some (i, a, er))) W Γ (dIsEr er cr) n) :=
  impE (pe_callB (X := X.suite a ((a, oe) :: pn)) (call_isE (T.exc er AE gE ho) hz hf) hg hm bt_isi (pa_cons (pe_var (X := X.suite a ((a, oe) :: pn)) hN hv hd hcd) (pa_cons (pe_glob (X := X.suite a ((a, oe) :: pn)) (v := .ref AC) hgy gC rfl hdy) pa_nil hs2) hs) (by decide) (by decide) hs hpl) fun σ H Q w => by
    obtain ⟨H0, G0, Hs, F, η, ok, pp⟩ := w
    unfold dIsEr at pp
    subst hcr
    rw [ho, hcro] at pp
    exact ⟨.ref a, ok.hot i a er rfl, .ref AC, .ref AC, _, rfl, fun u r => r, T.kit er cr AE AC gE gC ho hcro, pp _ H Hs [] (Step.refl ok.sub) (Own.scal rfl rep_bl)⟩
/-- isinstance(e, ValueError) -/
theorem e_isEv {AE : Addr} {a : Addr} {oe : Obj} {pn : List (Addr × Obj)} {er : Er} (i : Nat) (T : ErT X.K X.mg) (hz : Zc (.ref AE) none oe) (hf : ∃ vs, oe.data = .fields vs) (gE : X.mg er.name = some (.ref AE)) (ho : er.own = true) (hm : X.mg "isinstance" = none) (hmv : X.mg "ValueError" = none)
    (hN : X.N[i]? = some x := by rfl) (hv : Vis X.env.scope x := by first | exact Or.inl rfl | exact Or.inr (Or.inl rfl) | exact Or.inr (Or.inr rfl)) (hd : (x == ("__debug__" : Str)) = false := by decide) (hcd : (x == ("__classdict__" : Str)) = false := by decide) (hg : Gl X "isinstance" := by rfl) (hgy : Gl X "ValueError" := by rfl)
    (hs : starEach [.Name x p1, .Name "ValueError" p2] X.env = (false, eval (.Name x p1) X.env) :: starEach [.Name "ValueError" p2] X.env := by rfl) (hs2 : starEach [.Name "ValueError" p2] X.env = (false, eval (.Name "ValueError" p2) X.env) :: starEach [] X.env := by rfl) (hpl : (backTo pos (starEach [.Name "ValueError" p2] X.env)).any (·.1) = false := by rfl) :
    PE (X.suite a ((a, oe) :: pn)) (.Call (.Name "isinstance" p) [.Name x p1, .Name "ValueError" p2] [] pos) (tE (sta X (some (i, a, er))) W Γ (dLit (.bl true)) n) :=
  impE (pe_callB (X := X.suite a ((a, oe) :: pn)) (call_isE (T.exc er AE gE ho) hz hf) hg hm bt_isi (pa_cons (pe_var (X := X.suite a ((a, oe) :: pn)) hN hv hd hcd) (pa_cons (pe_bltn (X := X.suite a ((a, oe) :: pn)) (v := .ty "ValueError") hgy hmv bt_ve rfl (by decide) (by decide)) pa_nil hs2) hs) (by decide) (by decide) hs hpl) fun σ H Q w => by
    obtain ⟨H0, G0, Hs, F, η, ok, pp⟩ := w
    exact ⟨.ref a, ok.hot i a er rfl, .ty "ValueError", .type "ValueError", true, rfl, fun u r => r, T.kitV er AE gE ho, pp _ H Hs [] (Step.refl ok.sub) (Own.scal rfl rep_bl)⟩
theorem EOk.heat {K : PySem.W.Frag} {mg : Str → Option Value} {H0 G0 H Hs : Hp} {F : Nat → List Addr} {σ : L2.St} {η : Env} {ad : Addr} {er : Er} (ok : EOk ⟨K, mg, none⟩ H0 G0 H Hs Γ F σ η) (hi : i < η.length) : EOk ⟨K, mg, some (i, ad, er)⟩ H0 G0 H Hs Γ F (σ.set i (some (.ref ad))) (η.set i none) where
  st := ok.st
  len := by rw [List.length_set, List.length_set, ok.len]
  slot := fun j d h => by
    rw [List.getElem?_set] at h ⊢
    by_cases hj : i = j
    · rw [if_pos hj, if_pos hi] at h; cases h
    · rw [if_neg hj] at h ⊢
      obtain ⟨v, h1, h2⟩ := ok.slot j d h
      exact ⟨v, h1, h2.cool d _ v _⟩
  hid := ok.hid
  disj := ok.disj
  nd := ok.nd
  hot := fun j b f q => by
    cases q
    rw [List.getElem?_set, if_pos rfl, if_pos (by rw [ok.len]; exact hi)]
theorem EOk.cool {K : PySem.W.Frag} {mg : Str → Option Value} {h : Option (Nat × Addr × Er)} {H0 G0 H Hs : Hp} {F : Nat → List Addr} {σ : L2.St} {η : Env} (ok : EOk ⟨K, mg, h⟩ H0 G0 H Hs Γ F σ η) : EOk ⟨K, mg, none⟩ H0 G0 H Hs Γ F σ η where
  st := ok.st
  len := ok.len
  slot := fun j d q => by
    obtain ⟨v, h1, h2⟩ := ok.slot j d q
    exact ⟨v, h1, h2.cool d _ v _⟩
  hid := ok.hid
  disj := ok.disj
  nd := ok.nd
  hot := fun j b f q => by cases q
abbrev suiteCt (c : Ct) (S : Sta) (Γh' : List Nat) : Ct := { c with S := S, W := W0 }
theorem s_tryAs {mh : Er → Env → Fl} {AC : Addr} (fl : List Bool) (cr : Er) (i : Nat) (T : ErT X.K X.mg) (hS : c.S = sta X none) (hst : X.stack = X.env :: X.outer) (hfr : X.env.frame = some X.env.locals) (hN : X.N.Nodup) (gC : X.mg y = some (.ref AC)) (hcr : cr.name = y) (hcro : cr.own = true) (tk : Takes X c.W)
    (hz0 : Γh.all (· == 0) = true) (hz1 : Γ'.all (· == 0) = true) (hz2 : Γh'.all (· == 0) = true) (hG : keepG Γ1 (fun i => fl.getD i false) = Γ')
    (hb : ∀ (W : WX) (pn : List (Addr × Obj)) (xe : Value → Shared → Prop), Takes (X.tr pn xe) W → PassesOwn (model X.prog X.w) X.A X.env xe → PSs (X.tr pn xe) body (tS { c with W := W } Γ m Γ1))
    (hsu : ∀ (a : Addr) (oe : Obj) (pn : List (Addr × Obj)) (er : Er) (AE : Addr), er.own = true → X.mg er.name = some (.ref AE) → Zc (.ref AE) none oe → (∃ vs, oe.data = .fields vs) → PSs (X.suite a ((a, oe) :: pn)) (b₀ :: suite) (tS { c with S := sta X (some (i, a, er)), W := W0 } Γh (mh er) Γh'))
    (hi : X.N[i]? = some x := by rfl) (hln : X.env.kindOf x = some .local := by rfl) (hg : Gl X y := by rfl) (hdy : (y == ("__debug__" : Str)) = false := by decide) :
    PS X (.Try body [.ExceptHandler (some (.Name y np)) (some x) (b₀ :: suite) pos'] [] [] pos) (tS c Γ (sTryAs m cr i mh) Γ') := by
  refine impS (ps_try_as (tb := fun W => tS { c with W := W } Γ m Γ1) (ts := fun a cls d => fun D σ H => ∃ (er : Er) (AE : Addr), er.own = true ∧ X.mg er.name = some (.ref AE) ∧ cls = .ref AE ∧ d = none ∧ tS { c with S := sta X (some (i, a, er)), W := W0 } Γh (mh er) Γh' D σ H)
    (c := .ref AC) (Wout := c.W) hst hfr hN hi hln ⟨hg, hdy, .inl gC⟩ tk hb (fun a oe cls d pn hz hf => ⟨fun pins s σ H D I w => ?_⟩)) fun D σ H w => ?_
  · obtain ⟨er, AE, ho, gE, rfl, rfl, w⟩ := w
    exact (hsu a oe pn er AE ho gE hz hf).run pins s σ H D I w
  · obtain ⟨H0, G0, Hs, F, η, ok, p⟩ := w
    refine ⟨H0, G0, Hs, F, η, ok, ?_⟩
    unfold sTryAs at p
    cases e1 : m η with
    | nx η' =>
      rw [e1] at p
      intro σ' H' Hs' F' ok'
      obtain ⟨Hs2, F2, ok2, _, _⟩ := ok'.froz fun i => fl.getD i false
      exact p σ' H' Hs2 F2 (by rw [← hG]; exact ok2)
    | rt d => rw [e1] at p; exact p
    | bk η' => rw [e1] at p; exact p
    | ct η' => rw [e1] at p; exact p
    | stuck => rw [e1] at p; exact p.elim
    | ex er η' =>
      rw [e1] at p
      have p' : PostS c H0 G0 Γ' (if er.own = true ∧ i < η'.length then (if er.sub cr then goneFl i (mh er (η'.set i none)) else .ex er η') else .stuck) D := p
      split at p'
      · rename_i hh
        obtain ⟨ho, hil⟩ := hh
        intro cls dd σ' H' Hs' F' hcl ok'
        obtain ⟨rfl, AE, rfl, gE'⟩ := hcl
        have gE : X.mg er.name = some (.ref AE) := by
          have z : c.S.mg er.name = some (.ref AE) := gE'
          rw [hS] at z; exact z
        subst hcr
        refine ⟨er.sub cr, T.exm er cr AE AC gE gC ho hcro, fun hsb a ha => ?_, fun hsb => ?_⟩
        · rw [if_pos hsb] at p'
          have ok2 : EOk (sta X none) H0 G0 H' Hs' [] F' σ' η' := by rw [← hS]; exact ok'
          have ok3 := (ok2.cong (Γ2 := Γh) fun j => by rw [allz hz0 j]; rfl).heat (ad := a) (er := er) hil
          refine ⟨er, AE, ho, gE, rfl, rfl, H0, G0, Hs', F', η'.set i none, ok3, ?_⟩
          cases e2 : mh er (η'.set i none) with
          | nx η5 =>
            rw [e2] at p'
            intro σ5 H5 Hs5 F5 ok5
            have ok6 : EOk (sta X none) H0 G0 H5 Hs5 Γ' F5 (σ5.set i none) (η5.set i none) := ((ok5.cool).gone rfl).cong fun j => by rw [allz hz1 j, allz hz2 j]
            exact p' _ H5 Hs5 F5 (by rw [hS]; exact ok6)
          | bk η5 =>
            rw [e2] at p'
            intro σ5 H5 Hs5 F5 ok5
            have ok6 : EOk (sta X none) H0 G0 H5 Hs5 c.Γb F5 (σ5.set i none) (η5.set i none) := (ok5.cool).gone rfl
            exact p' _ H5 Hs5 F5 (by rw [hS]; exact ok6)
          | ct η5 =>
            rw [e2] at p'
            intro σ5 H5 Hs5 F5 ok5
            have ok6 : EOk (sta X none) H0 G0 H5 Hs5 c.Γc F5 (σ5.set i none) (η5.set i none) := (ok5.cool).gone rfl
            exact p' _ H5 Hs5 F5 (by rw [hS]; exact ok6)
          | rt d =>
            rw [e2] at p'
            intro v H5 Hs5 Fr s5 o5
            exact p' v H5 Hs5 Fr s5 (by rw [hS]; exact o5.cool d _ v _)
          | ex er2 η5 => rw [e2] at p'; exact p'.elim
          | stuck => rw [e2] at p'; exact p'.elim
        · rw [if_neg (by rw [hsb]; exact Bool.false_ne_true)] at p'
          exact p' (.ref AE) none σ' H' Hs' F' ⟨rfl, AE, rfl, gE'⟩ ok'
      · exact p'.elim
theorem s_tryOnly {mh : Env → Fl} {AC : Addr} (fl : List Bool) (cr : Er) (T : ErT X.K X.mg) (hS : c.S = sta X none) (hst : X.stack = X.env :: X.outer) (hfr : X.env.frame = some X.env.locals) (gC : X.mg y = some (.ref AC)) (hcr : cr.name = y) (hcro : cr.own = true) (tk : Takes X c.W)
    (hz0 : Γh.all (· == 0) = true) (hz1 : Γ'.all (· == 0) = true) (hz2 : Γh'.all (· == 0) = true) (hG : keepG Γ1 (fun i => fl.getD i false) = Γ')
    (hb : ∀ (W : WX) (pn : List (Addr × Obj)) (xe : Value → Shared → Prop), Takes (X.tr pn xe) W → PassesOwn (model X.prog X.w) X.A X.env xe → PSs (X.tr pn xe) body (tS { c with W := W } Γ m Γ1))
    (hsu : ∀ (a : Addr) (oe : Obj) (pn : List (Addr × Obj)), PSs (X.suite a ((a, oe) :: pn)) (b₀ :: suite) (tS { c with W := W0 } Γh mh Γh'))
    (hg : Gl X y := by rfl) (hdy : (y == ("__debug__" : Str)) = false := by decide) :
    PS X (.Try body [.ExceptHandler (some (.Name y np)) none (b₀ :: suite) pos'] [] [] pos) (tS c Γ (sTryOnly m cr mh) Γ') := by
  refine impS (ps_try_only (tb := fun W => tS { c with W := W } Γ m Γ1) (ts := fun a cls d => tS { c with W := W0 } Γh mh Γh')
    (c := .ref AC) (Wout := c.W) hst hfr ⟨hg, hdy, .inl gC⟩ tk hb (fun a oe cls d pn hz hf => hsu a oe pn)) fun D σ H w => ?_
  obtain ⟨H0, G0, Hs, F, η, ok, p⟩ := w
  refine ⟨H0, G0, Hs, F, η, ok, ?_⟩
  unfold sTryOnly at p
  cases e1 : m η with
  | nx η' =>
    rw [e1] at p
    intro σ' H' Hs' F' ok'
    obtain ⟨Hs2, F2, ok2, _, _⟩ := ok'.froz fun i => fl.getD i false
    exact p σ' H' Hs2 F2 (by rw [← hG]; exact ok2)
  | rt d => rw [e1] at p; exact p
  | bk η' => rw [e1] at p; exact p
  | ct η' => rw [e1] at p; exact p
  | stuck => rw [e1] at p; exact p.elim
  | ex er η' =>
    rw [e1] at p
    have p' : PostS c H0 G0 Γ' (if er.own then (if er.sub cr then noEx (mh η') else .ex er η') else .stuck) D := p
    split at p'
    · rename_i ho
      intro cls dd σ' H' Hs' F' hcl ok'
      obtain ⟨rfl, AE, rfl, gE'⟩ := hcl
      have gE : X.mg er.name = some (.ref AE) := by
        have z : c.S.mg er.name = some (.ref AE) := gE'
        rw [hS] at z; exact z
      subst hcr
      refine ⟨er.sub cr, T.exm er cr AE AC gE gC ho hcro, fun hsb a ha => ?_, fun hsb => ?_⟩
      · rw [if_pos hsb] at p'
        have ok3 := ok'.cong (Γ2 := Γh) fun j => by rw [allz hz0 j]; rfl
        refine ⟨H0, G0, Hs', F', η', ok3, ?_⟩
        cases e2 : mh η' with
        | nx η5 =>
          rw [e2] at p'
          exact fun σ5 H5 Hs5 F5 ok5 => p' _ H5 Hs5 F5 (ok5.cong fun j => by rw [allz hz1 j, allz hz2 j])
        | bk η5 => rw [e2] at p'; exact p'
        | ct η5 => rw [e2] at p'; exact p'
        | rt d => rw [e2] at p'; exact p'
        | ex er2 η5 => rw [e2] at p'; exact p'.elim
        | stuck => rw [e2] at p'; exact p'.elim
      · rw [if_neg (by rw [hsb]; exact Bool.false_ne_true)] at p'
        exact p' (.ref AE) none σ' H' Hs' F' ⟨rfl, AE, rfl, gE'⟩ ok'
    · exact p'.elim
end
/-! ### a def -/
abbrev bodyCt (K : PySem.W.Frag) (mg : Str → Option Value) (E : XK) (n : Nat) : Ct := ⟨⟨K, mg, none⟩, fun cls d _ H => E cls d H, n, [], []⟩
theorem fn_ok {P : Program} {w : World} {K : PySem.W.Frag} {mg : Str → Option Value} {base : Heap} {x qual : Str} {params : Arguments} {body : List Stmt} {scope : Scope} {dvs : List V} {kws : List (Str × V)} {fA : Addr} {fd : FuncData} {N ps : List Str} {k ar n : Nat} {m : Env → Fl} {Γ Γ' : List Nat}
    (F : FunD K x qual params body scope dvs kws fA fd) (Sc : FnScope N ps scope) (har : ps.length = ar) (hΓ : Γ.all (· == 0) = true)
    (hbody : ∀ (cdv : Value) (A : Around) (outer : List PySem.Env) (s : Shared) (H : Hp) (E : XK), Room k (A.deeper (PyProof.Rows.envOfC qual scope s.heap.objs.size fA cdv)) → PSs (cxOf (L2.CX P w) P w K mg base N qual scope fA cdv A outer s H E) body (tS (bodyCt K mg E n) Γ m Γ')) :
    FnOk P w K mg base (L2.CX P w) (k + 1) fA fd ps (spF ⟨K, mg, none⟩ ar (mkFn ar N.length m) n) := by
  refine F.ok Sc (fun vs H Q E h => ?_) (fun cdv A outer s H vs Q E hr h => ⟨tS (bodyCt K mg E n) Γ m Γ', hbody cdv A outer s H E hr, ?_⟩)
  · obtain ⟨ds, Hs, h1, h2, h3, _⟩ := h
    rw [h3.length, h1, har]
  · obtain ⟨ds, Hs, h1, h2, h3, post⟩ := h
    have hvl := h3.length
    unfold mkFn at post
    rw [if_pos h1] at post
    have eS : ∀ (i : Nat) (d : D), (ds.map some ++ List.replicate (N.length - ar) none : Env)[i]? = some (some d) → ds[i]? = some d := fun i d e => by
      rw [List.getElem?_append] at e
      split at e
      · simpa using e
      · rw [List.getElem?_replicate] at e
        split at e <;> cases e
    refine ⟨H, Hs, Hs, fun _ => [], ds.map some ++ List.replicate (N.length - ar) none, ⟨Step.refl h2, ?_, fun i d e => ?_, fun _ _ z => absurd z List.not_mem_nil, fun _ _ _ z => absurd z List.not_mem_nil, fun _ => List.nodup_nil, fun _ _ _ z => by cases z⟩, ?_⟩
    · unfold L2.start
      simp [hvl, h1]
    · obtain ⟨v, e1, e2⟩ := h3.get (eS i d e)
      refine ⟨v, ?_, ?_⟩
      · unfold L2.start
        have hlt : i < vs.length := (List.getElem?_eq_some_iff.mp e1).1
        rw [List.getElem?_append_left (by simpa using hlt)]
        simp [e1]
      · rw [allz hΓ i]
        exact e2.own
    · cases e : m (ds.map some ++ List.replicate (N.length - ar) none) with
      | nx η' =>
        rw [e] at post
        have post' : ∀ (v : V) (H' Hs' : Hp) (Fr : List Addr), Step H Hs H' Hs' Fr → Own ⟨K, mg, none⟩ H' Hs' .non n v Fr → Q v H' := post
        exact fun σ' H' Hs' F' ok' => post' .non H' Hs' [] ok'.st ((Own.other rfl).mpr ⟨rfl, by unfold Rep; rfl⟩)
      | rt d => rw [e] at post; exact post
      | ex er η' =>
        rw [e] at post
        have post' : ∀ (cls : Value) (d : Option Addr) (H' : Hp), clsIs ⟨K, mg, none⟩ er cls d → Same H H' → E cls d H' := post
        exact fun cls dd σ' H' Hs' F' hcl ok' => post' cls dd H' hcl ok'.st.all
      | bk η' => rw [e] at post; exact post.elim
      | ct η' => rw [e] at post; exact post.elim
      | stuck => rw [e] at post; exact post.elim
theorem spF_imp {S : Sta} {ar n : Nat} {f g : List D → Res D} (h : ∀ ds, ds.length = ar → g ds ≠ .stuck → f ds = g ds) : ∀ vs H Q E, spF S ar g n vs H Q E → spF S ar f n vs H Q E := fun vs H Q E ⟨ds, Hs, h1, h2, h3, p⟩ => by
  refine ⟨ds, Hs, h1, h2, h3, ?_⟩
  rw [h ds h1 (fun e => by rw [e] at p; exact p.elim)]
  exact p
section
variable {P : Program} {w : World} {K : PySem.W.Frag} {mg : Str → Option Value} {base : Heap} {x : Str} {k ar n : Nat} {f g : List D → Res D} {dfl : List D}
/-- what a def does may be said in other words -/
theorem FnS.imp (F : FnS P w K mg base x k ar f n dfl) (h : ∀ ds, ds.length = ar → g ds ≠ .stuck → f ds = g ds) : FnS P w K mg base x k ar g n dfl := by
  obtain ⟨fA, fd, ps, ds, dvs, h1, h2, h3, h4, h5, h6⟩ := F.ex
  exact ⟨fA, fd, ps, ds, dvs, h1, h2, h3.imp (spF_imp h), h4, h5, h6⟩
end
/-! ### a call with all arguments written -/
section
variable {X : Cx} {W : WX} {Γ : List Nat} {e : Expr} {es : List Expr} {mas : M (List D)} {n k j ar : Nat} {pos p : Pos} {x : Str} {f : List D → Res D}
theorem e_fn (F : FnS X.prog X.w X.K X.mg X.base x k ar f n []) (hr : Room j X.A) (hk : k ≤ j) (tk : Takes X W) (ha : PA X (e :: es) (tA (sta X none) W Γ mas)) (hml : ∀ η ds, mas η = .ok ds → ds.length = es.length + 1) (hlen : es.length + 1 + 0 = ar := by rfl) (hg : Gl X x := by rfl) (hdb : (x == ("__debug__" : Str)) = false := by decide)
    (he : starEach (e :: es) X.env = (false, eval e X.env) :: starEach es X.env := by rfl) (hpl : (backTo pos (starEach es X.env)).any (·.1) = false := by rfl) :
    PE X (.Call (.Name x p) (e :: es) [] pos) (tE (sta X none) W Γ (dCall f mas) n) := by
  have h := e_call (p := p) (pos := pos) F (hr.mono hk) tk ha hlen hml hg hdb he hpl
  have e1 : (fun as => f (as ++ [])) = f := funext fun as => by rw [List.append_nil]
  rw [e1] at h
  exact h
end
/-! ### what no def of the module hides -/
structure Blt (mg : Str → Option Value) : Prop where
  abs : mg "abs" = none
  len : mg "len" = none
  max : mg "max" = none
  min : mg "min" = none
  sum : mg "sum" = none
  isi : mg "isinstance" = none
  int : mg "int" = none
  bool : mg "bool" = none
  str : mg "str" = none
  list : mg "list" = none
  tuple : mg "tuple" = none
  range : mg "range" = none
  reversed : mg "reversed" = none
  enumerate : mg "enumerate" = none
  zip : mg "zip" = none
  sorted : mg "sorted" = none
  any : mg "any" = none
  all : mg "all" = none
  ve : mg "ValueError" = none
  dict : mg "dict" = none
def bltFa : List He.Fa := [.free "abs", .free "len", .free "max", .free "min", .free "sum", .free "isinstance", .free "int", .free "bool", .free "str", .free "list", .free "tuple", .free "range", .free "reversed", .free "enumerate", .free "zip", .free "sorted", .free "any", .free "all", .free "ValueError", .free "dict"]
/-! ### the errors' classes off the written part -/
def allEr : List Er := [.purse, .range, .malformed, .refused, .notThere, .spent, .badLine]
def erAt (K : PySem.W.Frag) (e : Er) : Option (Option Addr) := match PySem.W.nsIn K mainGlobals e.name with
  | some (some (.ref C)) => some (some C)
  | some none => some none
  | _ => none
def excB (K : PySem.W.Frag) (D : Addr) : Bool := (((decide (PySem.W.findIn K (.ref D) "__getattribute__" = some (some (.builtin "BaseException.__getattribute__"))) && decide (PySem.W.findIn K (.ref D) "__getattr__" = some none)) && (decide (PySem.W.subIn K (.ref D) (.type "BaseException") = some true) && PySem.W.hasDictIn K D)) &&
  ((decide (PySem.W.findIn K (.ref D) "__class__" = some (some (.builtin "object.__class__"))) && decide (PySem.W.specialIn K (.builtin "object.__class__") "__get__" = some (some (.builtin "getset_descriptor.__get__")))) && (decide (PySem.W.takesIn K (.builtin "object.__class__") = some true) && decide (PySem.W.mroIn K D (.type "object") = some true)))) &&
  ((PySem.W.excIn K D He.veBase "ValueError.__new__" && PySem.W.keepIn K (.ref D)) && (decide (PySem.W.typeIn K (.ref D) = some (.type "type")) && decide (PySem.W.kitOne K (.ref D) (.type "ValueError") = some true)))
def erPair (K : PySem.W.Frag) (e c : Er) (A B : Addr) : Bool := decide (PySem.W.kitOne K (.ref A) (.ref B) = some (e.sub c)) && decide (PySem.W.exmOne K (.ref A) (.ref B) = some (e.sub c))
def erB (K : PySem.W.Frag) : Bool := allEr.all fun e => match erAt K e with
  | some (some A) => excB K A && allEr.all fun c => match erAt K c with
    | some (some B) => erPair K e c A B
    | some none => true
    | none => false
  | some none => true
  | none => false
theorem own_mem : ∀ {e : Er}, e.own = true → e ∈ allEr := by
  intro e h
  cases e <;> first | (simp [allEr]; done) | (cases h)
theorem erAt_of {K : PySem.W.Frag} {h : Heap} {mg : Str → Option Value} (X : K.In h) (G : h.Ns mainGlobals mg) {e : Er} {A : Addr} (hm : mg e.name = some (.ref A)) (hB : erAt K e ≠ none) : erAt K e = some (some A) := by
  unfold erAt at hB ⊢
  cases q : PySem.W.nsIn K mainGlobals e.name with
  | none => rw [q] at hB; exact absurd rfl hB
  | some o =>
    cases o with
    | none =>
      have z := PySem.W.mg_none_of X G q
      rw [hm] at z; cases z
    | some v =>
      have z := PySem.W.mg_of X G q
      rw [hm] at z
      cases z
      rfl
theorem erT_of {K : PySem.W.Frag} {h : Heap} {mg : Str → Option Value} (X : K.In h) (G : h.Ns mainGlobals mg) (hB : erB K = true) : ErT K mg := by
  have at_ : ∀ {e : Er} {A : Addr}, mg e.name = some (.ref A) → e.own = true → erAt K e = some (some A) := fun {e A} hm ho => by
    refine erAt_of X G hm fun q => ?_
    have z := List.all_eq_true.mp hB e (own_mem ho)
    rw [q] at z
    cases z
  have one : ∀ {e : Er} {A : Addr}, mg e.name = some (.ref A) → e.own = true → (excB K A && allEr.all fun c => match erAt K c with
    | some (some B) => erPair K e c A B
    | some none => true
    | none => false) = true := fun {e A} hm ho => by
    have z := List.all_eq_true.mp hB e (own_mem ho)
    rw [at_ hm ho] at z
    exact z
  have two : ∀ {e c : Er} {A B : Addr}, mg e.name = some (.ref A) → mg c.name = some (.ref B) → e.own = true → c.own = true → erPair K e c A B = true := fun {e c A B} h1 h2 o1 o2 => by
    have z := List.all_eq_true.mp (Bool.and_eq_true_iff.mp (one h1 o1)).2 c (own_mem o2)
    rw [at_ h2 o2] at z
    exact z
  have ex : ∀ {e : Er} {A : Addr}, mg e.name = some (.ref A) → e.own = true → excB K A = true := fun {e A} hm ho => (Bool.and_eq_true_iff.mp (one hm ho)).1
  refine ⟨fun e c A B h1 h2 o1 o2 => ?_, fun e c A B h1 h2 o1 o2 => ?_, fun e A h1 o1 => ?_, fun e A h1 o1 => ?_, fun e A h1 o1 => ?_⟩
  · have z := two h1 h2 o1 o2
    unfold erPair at z
    simp only [Bool.and_eq_true, decide_eq_true_eq] at z
    exact z.1
  · have z := two h1 h2 o1 o2
    unfold erPair at z
    simp only [Bool.and_eq_true, decide_eq_true_eq] at z
    exact z.2
  · have z := ex h1 o1
    unfold excB at z
    simp only [Bool.and_eq_true, decide_eq_true_eq] at z
    exact z.2.2.2
  · have z := ex h1 o1
    unfold excB at z
    simp only [Bool.and_eq_true, decide_eq_true_eq] at z
    obtain ⟨⟨⟨⟨a1, a2⟩, a3, a4⟩, ⟨a5, a6⟩, a7, a8⟩, _⟩ := z
    exact ⟨a1, a2, a3, a4, a5, a6, a7, a8⟩
  · have z := ex h1 o1
    unfold excB at z
    simp only [Bool.and_eq_true, decide_eq_true_eq] at z
    obtain ⟨⟨⟨_, a3, _⟩, _⟩, ⟨b1, b2⟩, b3, _⟩ := z
    exact ⟨h1, b1, b2, a3, b3⟩
end VL
/-! VLKw: calls with defaults, with keywords. -/
namespace VL
open PySem PySem.Spec L2
def opAddI : D → D → Res D
  | .int i, .int j => .ok (.int (i + j))
  | _, _ => .stuck
theorem od_addI {S : Sta} {n : Nat} : OpD S (rI0 fun i j => .int (i + j)) opAddI n := opd_I0 fun a b => by
  cases a <;> cases b <;> first | exact Or.inr rfl | exact Or.inl ⟨_, _, rfl, rfl, rfl⟩
/-- a def called with keywords: np values written, the names ks behind -/
structure FnK (P : Program) (w : World) (K : PySem.W.Frag) (mg : Str → Option Value) (base : Heap) (x : Str) (k : Nat) (f : List D → List D → Res D) (n np : Nat) (ks : List Str) : Prop where
  ex : ∃ (fA : Addr) (fd : FuncData) (ps : List Str) (ar : Nat) (g : List D → Res D) (gD : List D → List D → List D) (hv : List Value → List Value → List Value) (gV : List V → List V → List V), mg x = some (.ref fA) ∧ PySem.W.keepIn K (.ref fA) = true ∧
    FnOk P w K mg base (L2.CX P w) k fA fd ps (spF ⟨K, mg, none⟩ ar g n) ∧ KBn K fd ps np ks hv gV ∧ (∀ as bs, as.length = np → bs.length = ks.length → f as bs = g (gD as bs) ∧ (gD as bs).length = ar) ∧ (∀ H as bs vs zs, Reps ⟨K, mg, none⟩ H as vs → Reps ⟨K, mg, none⟩ H bs zs → Reps ⟨K, mg, none⟩ H (gD as bs) (gV vs zs))
def dCallK (f : List D → List D → Res D) (a b : M (List D)) : M D := fun η => (a η).bind fun xs => (b η).bind fun ys => f xs ys
section
variable {X : Cx} {W : WX} {Γ : List Nat} {e : Expr} {es : List Expr} {mas mbs : M (List D)} {n k j np : Nat} {pos p : Pos} {x : Str} {f : List D → Res D} {fk : List D → List D → Res D} {dfl : List D} {kws : List Keyword} {ks : List Str}
theorem impK {t t' : TA} (h : PK X kws t) (i : ∀ σ H Q, t' σ H Q → t σ H Q) : PK X kws t' := ⟨fun pos pins s σ H Q I w => h.run pos pins s σ H Q I (i σ H Q w)⟩
theorem k_nil {h : Option (Nat × Addr × Er)} : PK X [] (tA (sta X h) W Γ aNil) := impK pk_nil fun σ H Q w => by
  obtain ⟨H0, G0, Hs, F, η, ok, p⟩ := w
  exact p [] H Hs (Step.refl ok.sub) (Reps.nil_iff.mpr rfl)
theorem k_cons {h : Option (Nat × Addr × Er)} {ma : M D} {na : Nat} {nm : Option Str} {kpos : Pos} (ha : PE X e (tE (sta X h) W Γ ma na)) (hr : PK X kws (tA (sta X h) W Γ mas)) : PK X (⟨nm, e, kpos⟩ :: kws) (tA (sta X h) W Γ (aCons ma mas)) := impK (pk_cons ha hr) fun σ H Q w => by
  obtain ⟨H0, G0, Hs, F, η, ok, p⟩ := w
  refine tE.use ok ((Post.bind p).imp fun d pd v H1 Hs1 st1 rd ok1 => ?_)
  refine tA.use ok1 (((Post.bind pd).up st1.all).imp fun ds pds vs H2 Hs2 st2 rs ok2 => ?_)
  exact pds _ H2 Hs2 (st1.trans st2) (Reps.cons_iff.mpr ⟨_, _, rfl, rd.same st2.shr, rs⟩)
theorem run_SK {CX : CXT} {fA : Addr} {fd : FuncData} {ps : List Str} {sp : Sp} {E : L2.St → XK} {g : List Value → List Value → List Value} {gV : List V → List V → List V} {pins : List (Addr × Obj)} {σ : L2.St} {H : Hp} {s : Shared} {Q : VK} {us ws : List Value} {vs zs : List V} (F : FnOk X.prog X.w X.K X.mg X.base CX k fA fd ps sp) (hr : Room k X.A) (hb : KBn X.K fd ps np ks g gV) (hx : PassesAt CX X σ (E σ))
    (I : Inv X pins σ H s) (r : Vals vs us) (rz : Vals zs ws) (l1 : vs.length = np) (l2 : zs.length = ks.length) (h : sp (gV vs zs) H Q (E σ)) : wpAny (model X.prog X.w) X.A (call (.ref fA) us (ks.zip ws)) (EP X pins σ Q) X.xe s := by
  have r2 := hb.rel r rz
  refine wpAny_call (codeAny_mono (F.run X.A X.stack s H ⟨us, ks.zip ws⟩ (g us ws) (gV vs zs) Q (E σ) hr I.env0 (hb.to s us ws I.kIn (r.length.symm.trans l1) (rz.length.symm.trans l2)) r2 h) fun r s' hq => ?_)
  cases r with
  | error e => exact hx pins H s e s' I hq
  | ok fl =>
    cases fl with
    | ret u => exact I.after hq
    | next => exact False.elim hq
    | brk => exact False.elim hq
    | cont => exact False.elim hq
theorem e_fnK (F : FnK X.prog X.w X.K X.mg X.base x k fk n np ks) (hr : Room j X.A) (hkj : k ≤ j) (tk : Takes X W) (ha : PA X (e :: es) (tA (sta X none) W Γ mas)) (hkw : PK X kws (tA (sta X none) W Γ mbs)) (hml : ∀ η ds, mas η = .ok ds → ds.length = es.length + 1) (hmk : ∀ η ds, mbs η = .ok ds → ds.length = kws.length) (hn : es.length + 1 = np := by rfl) (hkl : kws.length = ks.length := by rfl)
    (hall : (backToKw pos (keywordEach kws X.env)).all (·.1.isSome) = true := by rfl) (hks : (backToKw pos (keywordEach kws X.env)).filterMap (·.1) = ks := by rfl) (hg : Gl X x := by rfl) (hdb : (x == ("__debug__" : Str)) = false := by decide)
    (he : starEach (e :: es) X.env = (false, eval e X.env) :: starEach es X.env := by rfl) (hpl : ((backTo pos (starEach (e :: es) X.env)).any (·.1) || (backToKw pos (keywordEach kws X.env)).any (·.1.isNone)) = false := by rfl) :
    PE X (.Call (.Name x p) (e :: es) kws pos) (tE (sta X none) W Γ (dCallK fk mas mbs) n) := by
  obtain ⟨fA, fd, ps, ar, g, gD, hv, gV, hm, hk, G, hb, hf, hrep⟩ := F.ex
  refine ⟨fun pins s σ H Q I w => ?_⟩
  obtain ⟨H0, G0, Hs, F, η, ok, pp⟩ := w
  refine wpAny_Call_Name_kw (ld_glob I hg hm ?_ hdb)
  have w : tA (sta X none) W Γ mas σ H fun vs H1 => tA (sta X none) W Γ mbs σ H1 fun zs H2 => vs.length = np ∧ zs.length = ks.length ∧ spF ⟨X.K, X.mg, none⟩ ar g n (gV vs zs) H2 Q (WE W σ) := by
    refine tA.use ok ?_
    have pb := Post.bind pp
    cases hη : mas η with
    | ok as =>
      have hl := hml η as hη
      rw [hη] at pb
      refine fun vs H1 Hs1 st1 r1 ok1 => tA.use ok1 ?_
      have pc := (Post.bind (show Post (sta X none) W σ H ((mbs η).bind fun ys => fk as ys) _ from pb)).up st1.all
      cases hκ : mbs η with
      | ok bs =>
        have hl2 := hmk η bs hκ
        rw [hκ] at pc
        refine fun zs H2 Hs2 st2 r2 ok2 => ⟨by rw [r1.length, hl, hn], by rw [r2.length, hl2, hkl], gD as bs, Hs2, ?_, ok2.sub, hrep _ _ _ _ _ (r1.same st2.shr) r2, ?_⟩
        · exact (hf as bs (by rw [hl, hn]) (by rw [hl2, hkl])).2
        · have pd : Post (sta X none) W σ H (fk as bs) _ := pc
          rw [(hf as bs (by rw [hl, hn]) (by rw [hl2, hkl])).1] at pd
          exact post_swap pd (st1.trans st2).all (fun cls d H' q => q) fun d kk v H' Hs' Fr st o => kk v H' Hs' Fr ((st1.trans st2).trans st) o
      | exc er => rw [hκ] at pc; exact pc
      | stuck => rw [hκ] at pc; exact pc.elim
    | exc er => rw [hη] at pb; exact pb
    | stuck => rw [hη] at pb; exact pb.elim
  refine PySem.W.callWith_KW (h₀ := X.base) I.ok.mod.kin hk hall (thn (ha.run pos pins s σ H _ I w) fun us s1 ⟨vs, H1, I1, r, q⟩ => ?_) hpl he
  refine thn (hkw.run pos pins s1 σ H1 _ I1 q) fun ws s2 ⟨zs, H2, I2, rz, l1, l2, q2⟩ => ⟨I2.kIn, ?_⟩
  rw [hks]
  exact run_SK G (hr.mono hkj) hb (passAt tk σ) I2 r rz l1 l2 q2
/-- a call that leaves the defaults out -/
theorem e_fnD {ar : Nat} (F : FnS X.prog X.w X.K X.mg X.base x k ar f n dfl) (hr : Room j X.A) (hk : k ≤ j) (tk : Takes X W) (ha : PA X (e :: es) (tA (sta X none) W Γ mas)) (hml : ∀ η ds, mas η = .ok ds → ds.length = es.length + 1) (hlen : es.length + 1 + dfl.length = ar := by rfl) (hg : Gl X x := by rfl) (hdb : (x == ("__debug__" : Str)) = false := by decide)
    (he : starEach (e :: es) X.env = (false, eval e X.env) :: starEach es X.env := by rfl) (hpl : (backTo pos (starEach es X.env)).any (·.1) = false := by rfl) :
    PE X (.Call (.Name x p) (e :: es) [] pos) (tE (sta X none) W Γ (dCall (fun as => f (as ++ dfl)) mas) n) :=
  e_call (p := p) (pos := pos) F (hr.mono hk) tk ha hlen hml hg hdb he hpl
end
theorem FunD_kbinds1 {K : PySem.W.Frag} {x qual : Str} {params : Arguments} {body : List Stmt} {scope : Scope} {dvs : List V} {kws : List (Str × V)} {f : Addr} {fd : FuncData} {ps : List Str} (F : FunD K x qual params body scope dvs kws f fd) (n j : Nat) (ks : List Str) (hd : dvs ≠ [])
    (h : ∀ (T : Addr) (kV doc pm : Value) (an : Option Addr) (cdv ct : Value) (us its ws : List Value), us.length = n → its.length = dvs.length → ws.length = ks.length →
      ∃ k, bindArgs (PySem.W.fnOf x qual params body scope (.ref T) kV doc pm an cdv ct) ⟨us, ks.zip ws⟩ = seqItems? (.ref T) >>= k ∧ k (some its.toArray) = pure (ps.zip (us ++ ws ++ its.drop j))) :
    ∃ rs : List Value, KBn K fd ps n ks (fun us ws => us ++ ws ++ rs) (fun vs zs => vs ++ zs ++ dvs.drop j) := by
  obtain ⟨oc, od, dV, kV, doc, pm, an, cdv, ct, osl, rfl, lk, hcd, hD, hK⟩ := F.ex
  rcases hD with ⟨e, _⟩ | ⟨_, T, o, its, m, rfl, lT, oT, rT⟩
  · exact absurd e hd
  · refine ⟨its.drop j, ⟨fun s us ws X l1 l2 => ?_, fun r1 r2 => (r1.append r2).append (rT.drop j)⟩⟩
    obtain ⟨k, e1, e2⟩ := h T kV doc pm an cdv ct us its ws l1 rT.length.symm l2
    refine BindsTo.of_looks fun M => ?_
    rw [e1]
    exact looks_items X lT oT (.of_pure e2)
theorem Reps.dflt {S : Sta} {H : Hp} : Reps S H [] [] := Reps.nil_iff.mpr rfl
/-- a def as the calls take it -/
theorem FnS_of {P : Program} {w : World} {K : PySem.W.Frag} {mg : Str → Option Value} {base : Heap} {x : Str} {k ar n : Nat} {f : List D → Res D} {fA : Addr} {fd : FuncData} {ps : List Str} (g : mg x = some (.ref fA)) (kp : PySem.W.keepIn K (.ref fA) = true) (o : FnOk P w K mg base (L2.CX P w) k fA fd ps (spF ⟨K, mg, none⟩ ar f n)) (b : Binds K fd ps []) : FnS P w K mg base x k ar f n [] :=
  ⟨⟨fA, fd, ps, [], [], g, kp, o, .nil, fun _ => Reps.dflt, b⟩⟩
/-- .. with defaults left out -/
theorem FnS_d {P : Program} {w : World} {K : PySem.W.Frag} {mg : Str → Option Value} {base : Heap} {x : Str} {k ar n : Nat} {f : List D → Res D} {fA : Addr} {fd : FuncData} {ps : List Str} {dfl : List D} {dvs : List V} (g : mg x = some (.ref fA)) (kp : PySem.W.keepIn K (.ref fA) = true) (o : FnOk P w K mg base (L2.CX P w) k fA fd ps (spF ⟨K, mg, none⟩ ar f n)) (hr : ∀ H, Reps ⟨K, mg, none⟩ H dfl dvs) (b : ∃ ds, Vals dvs ds ∧ Binds K fd ps ds) : FnS P w K mg base x k ar f n dfl := by
  obtain ⟨ds, h1, h2⟩ := b
  exact ⟨⟨fA, fd, ps, ds, dvs, g, kp, o, h1, hr, h2⟩⟩
theorem FnK_of {P : Program} {w : World} {K : PySem.W.Frag} {mg : Str → Option Value} {base : Heap} {x : Str} {k ar n np : Nat} {f : List D → Res D} {fA : Addr} {fd : FuncData} {ps ks : List Str} {dfl : List D} {dvs : List V} (g : mg x = some (.ref fA)) (kp : PySem.W.keepIn K (.ref fA) = true) (o : FnOk P w K mg base (L2.CX P w) k fA fd ps (spF ⟨K, mg, none⟩ ar f n)) (hr : ∀ H, Reps ⟨K, mg, none⟩ H dfl dvs)
    (b : ∃ its : List Value, KBn K fd ps np ks (fun us ws => us ++ ws ++ its) (fun vs zs => vs ++ zs ++ dvs)) (hl : np + ks.length + dfl.length = ar) : FnK P w K mg base x k (fun as bs => f (as ++ bs ++ dfl)) n np ks := by
  obtain ⟨its, h1⟩ := b
  exact ⟨⟨fA, fd, ps, ar, f, fun as bs => as ++ bs ++ dfl, _, _, g, kp, o, h1, fun as bs l1 l2 => ⟨rfl, by rw [List.length_append, List.length_append, l1, l2]; exact hl⟩, fun H as bs vs zs r1 r2 => (r1.append r2).append (hr H)⟩⟩
end VL
/-! VLMore: ranges with a step, calls in a suite. -/
namespace VL
open PySem PySem.Spec L2
def rangeC (lo c : Int) (n : Nat) : List D := (List.range n).map fun (k : Nat) => D.int (lo + (k : Int) * c)
def rgOk (i j c : Int) : Bool := decide (c ≠ 0) && (decide (c.natAbs < 1073741824) && Builtin.Range.small i j c)
def iRange3 (a b c : M D) : M (List D) := fun η => (a η).bind fun x => (b η).bind fun y => (c η).bind fun z => match x, y, z with
  | .int i, .int j, .int k => if rgOk i j k then .ok (rangeC i k (Builtin.Range.rangeSize i j k).toNat) else .stuck
  | _, _, _ => .stuck
theorem walks_rangeC {S : Sta} {Hs : Hp} {lo c : Int} {n : Nat} : Walks S Hs (Itc lo c n) (rangeC lo c n) := fun i H' Hs' s1 s2 => by
  have e : (rangeC lo c n)[i]? = if i < n then some (D.int (lo + (i : Int) * c)) else none := by
    unfold rangeC
    by_cases hi : i < n
    · rw [if_pos hi]; simp [hi]
    · rw [if_neg hi]; simp; omega
  refine ⟨fun d hd => ?_, fun hn => ?_⟩
  · rw [e] at hd
    by_cases hi : i < n
    · rw [if_pos hi] at hd
      cases hd
      refine ⟨hi, fun x H'' y => ?_⟩
      obtain ⟨rfl, rfl⟩ := y
      exact ⟨Hs', Step.refl s2, rep_int⟩
    · rw [if_neg hi] at hd; cases hd
  · rw [e] at hn
    by_cases hi : i < n
    · rw [if_pos hi] at hn; cases hn
    · exact Nat.le_of_not_lt hi
section
variable {X : Cx} {W : WX} {Γ : List Nat} {h : Option (Nat × Addr × Er)} {tg a b c e : Expr} {es : List Expr} {ma mb mc : M D} {mas : M (List D)} {na nb nc n k j ar : Nat} {pos p : Pos} {x : Str} {f : List D → Res D}
theorem i_range3 (hm : X.mg "range" = none) (ha : PE X a (tE (sta X h) W Γ ma na)) (hb : PE X b (tE (sta X h) W Γ mb nb)) (hc : PE X c (tE (sta X h) W Γ mc nc)) (hg : Gl X "range" := by rfl)
    (hs : starEach [a, b, c] X.env = (false, eval a X.env) :: starEach [b, c] X.env := by rfl) (hs2 : starEach [b, c] X.env = (false, eval b X.env) :: starEach [c] X.env := by rfl) (hs3 : starEach [c] X.env = (false, eval c X.env) :: starEach [] X.env := by rfl) (hpl : (backTo pos (starEach [b, c] X.env)).any (·.1) = false := by rfl) :
    PI X tg (.Call (.Name "range" p) [a, b, c] [] pos) (tI (sta X h) W Γ (iRange3 ma mb mc)) := impI (pi_range3 hg hm (pa_cons ha (pa_cons hb (pa_cons hc pa_nil hs3) hs2) hs) hs hpl) fun σ H R w => by
  obtain ⟨H0, G0, Hs, F, η, ok, p⟩ := w
  refine tE.use ok ((Post.bind p).imp fun d pd v H1 Hs1 st1 rd ok1 => ?_)
  refine tE.use ok1 (((Post.bind pd).up st1.all).imp fun d2 pe v2 H2 Hs2 st2 rd2 ok2 => ?_)
  refine tE.use ok2 (((Post.bind pe).up (st1.trans st2).all).imp fun d3 pf v3 H3 Hs3 st3 rd3 ok3 => ?_)
  cases d <;> first | exact pf.elim | skip
  cases d2 <;> first | exact pf.elim | skip
  cases d3 <;> first | exact pf.elim | skip
  rename_i i j k
  have pd' : Post (sta X h) W σ H (if rgOk i j k then Res.ok (rangeC i k (Builtin.Range.rangeSize i j k).toNat) else .stuck) _ := pf
  split at pd'
  · rename_i hj
    unfold rgOk at hj
    simp only [Bool.and_eq_true, decide_eq_true_eq] at hj
    unfold Rep at rd rd2 rd3
    exact ⟨i, j, k, _, by rw [rd, rd2, rd3], ⟨hj.1, hj.2.1, hj.2.2, PyProof.Rows.rangeSize_toNat i j k⟩, pd' _ H3 Hs3 ((st1.trans st2).trans st3) walks_rangeC⟩
  · exact pd'.elim
/-- a call in a suite -/
theorem e_fnS (F : FnS X.prog X.w X.K X.mg X.base x k ar f n []) (hr : Room j X.A) (hk : k ≤ j) (tk : Takes X W) (ha : PA X (e :: es) (tA (sta X h) W Γ mas)) (hml : ∀ η ds, mas η = .ok ds → ds.length = es.length + 1) (hlen : es.length + 1 + 0 = ar := by rfl) (hg : Gl X x := by rfl) (hdb : (x == ("__debug__" : Str)) = false := by decide)
    (he : starEach (e :: es) X.env = (false, eval e X.env) :: starEach es X.env := by rfl) (hpl : (backTo pos (starEach es X.env)).any (·.1) = false := by rfl) :
    PE X (.Call (.Name x p) (e :: es) [] pos) (tE (sta X h) W Γ (dCall f mas) n) := by
  obtain ⟨fA, fd, ps, ds, dvs, hm, hkp, G, hd, hrep, hb⟩ := F.ex
  refine ⟨fun pins s σ H Q I w => ?_⟩
  obtain ⟨H0, G0, Hs, F, η, ok, pp⟩ := w
  refine wpAny_Call_Name_kw (ld_glob I hg hm ?_ hdb)
  have w : tA (sta X h) W Γ mas σ H fun vs H1 => spF ⟨X.K, X.mg, none⟩ ar f n (vs ++ dvs) H1 Q (WE W σ) := by
    cases hη : mas η with
    | ok as =>
      have hl := hml η as hη
      refine tA.use ok ?_
      have pb := Post.bind pp
      rw [hη] at pb ⊢
      refine fun vs H1 Hs1 st1 r1 ok1 => ⟨as ++ [], Hs1, by rw [List.length_append, hl]; exact hlen, ok1.sub, (r1.cool).append (hrep _), ?_⟩
      rw [List.append_nil]
      exact post_swap (S := sta X h) pb st1.all (fun cls d H' q => q) fun d kk v H' Hs' Fr st o => kk v H' Hs' Fr (st1.trans st) (o.cool d _ v _)
    | exc er =>
      refine tA.use ok ?_
      have pb := Post.bind pp
      rw [hη] at pb ⊢
      exact pb
    | stuck =>
      have pb := Post.bind pp
      rw [hη] at pb
      exact pb.elim
  refine PySem.W.callWith_K (h₀ := X.base) I.ok.mod.kin hkp (thn (ha.run pos pins s σ H _ I w) fun us s1 ⟨vs, H1, I1, r, q⟩ => ⟨I1.kIn, ?_⟩) he hpl
  exact run_S G (hr.mono hk) hb hd (passAt tk σ) I1 r q
end
end VL
/-! VLHead: a law's end. -/
namespace VL
open PySem PySem.Spec L2
/-- no list among the module's own things -/
def noLst (K : PySem.W.Frag) : Bool := K.all fun p => decide (p.2.cls ≠ .type "list")
theorem noLst_of {K : PySem.W.Frag} (h : noLst K = true) {a : Addr} {o : Obj} (e : K.lookup a = some o) : o.cls ≠ .type "list" := by
  have key : ∀ l : List (Addr × Obj), (l.all fun p => decide (p.2.cls ≠ .type "list")) = true → l.lookup a = some o → o.cls ≠ .type "list" := by
    intro l
    induction l with
    | nil => intro _ q; cases q
    | cons p r ih =>
      intro hl q
      rw [List.all_cons, Bool.and_eq_true] at hl
      obtain ⟨b, u⟩ := p
      have q2 : (match a == b with | true => some u | false => r.lookup a) = some o := q
      cases hb : (a == b) with
      | true =>
        rw [hb] at q2
        have z : u = o := Option.some.inj q2
        rw [← z]
        exact of_decide_eq_true hl.1
      | false =>
        rw [hb] at q2
        exact ih hl.2 q2
  exact key K h e
def obsV (fa : List He.Fa) (fn : List He.DefD) (K : PySem.W.Frag) : (Bool × Bool) × He.AlD := ((erB K, noLst K), He.obsD fa fn K)
def obsVG (n : Nat) (fa : List He.Fa) (fn : List He.DefD) (g : Addr → Option Obj) : (Bool × Bool) × He.AlD := obsV fa fn (He.frG g (He.asD g n))
structure SaysV (fa : List He.Fa) (fn : List He.DefD) (K : PySem.W.Frag) : Prop where
  er : erB K = true
  nl : noLst K = true
  d : He.SaysD fa fn K
def hookV (n : Nat) (fa : List He.Fa) (fn : List He.DefD) : PySem.W.Hook where
  α := (Bool × Bool) × He.AlD
  obs := fun s => obsVG n fa fn s.heap.get?
  val := fun _ => ((true, true), He.valD fn)
  says := fun _ h => ∃ K : PySem.W.Frag, K.In h ∧ SaysV fa fn K
  of := fun _ _ e => ⟨_, He.frG_in, ⟨congrArg (fun z : (Bool × Bool) × He.AlD => z.1.1) e, congrArg (fun z : (Bool × Bool) × He.AlD => z.1.2) e, congrArg (fun z : (Bool × Bool) × He.AlD => z.2) e⟩⟩
  keeps := fun _ _ _ ⟨K, hK, c⟩ k => ⟨K, PySem.W.Frag.In.keeps hK k, c⟩
theorem obsVG_eq {n : Nat} {fa : List He.Fa} {fn : List He.DefD} {g : Addr → Option Obj} {s : Shared} (h : ∀ a, g a = s.heap.get? a) : obsVG n fa fn g = (hookV n fa fn).obs s := by
  have e : g = s.heap.get? := funext h
  rw [e] <;> rfl
theorem walk_ofV {l : PySem.W.OpenLaw} {n k : Nat} {q : Program} {loose : List Str} {XP : (Str → Option Value) → Heap → Prop} {YP : World → Heap → Prop} {d : DefRec} {x : Str}
    (hn : l.most = some n) (hn2 : n ≤ sizeLine) (hdf : d.params.defaults = []) (hr : Room k PySem.callerA)
    (F : ∀ (w : World) (mg : Str → Option Value) (fa : Addr) (h : Heap), YP w h → h.Ns mainGlobals mg → mg d.name = some (.ref fa) →
      ∃ (K : PySem.W.Frag) (fd : FuncData) (sp : Sp), K.In h ∧ noLst K = true ∧ (∀ (s : Shared) (u : Value), BindsTo s fd ⟨[u], []⟩ [(x, u)]) ∧
        (∀ (H : Hp) (a : Addr) (ns : List Int), ns.length ≤ n → (∀ z ∈ ns, Builtin.Int.intBits z ≤ 1048576) → Rd H a (.lst (ns.map V.int)) → sp [.ref a] H (fun v _ => v = .bl true) fun _ _ _ => False) ∧
        ∀ base : Heap, K.In base → base.Ns mainGlobals mg → FnOk l.prog w K mg base (L2.CX l.prog w) k fa fd [x] sp) :
    PySem.W.WalkO q loose XP YP l.row.toRowW d [] (fun f vs => PySem.call f vs) := by
  refine Att.attach_callB hn hdf fun w s₀ s₁ mg mb fa o pm cd doc a vs ns G Y ho hd hcd hmg hobj hints hlen hbits hg => ?_
  obtain ⟨K, fd, sp, KX, hK, hb, hsp, hF⟩ := F w mg fa _ Y G.T.g hmg
  refine law_call KX G.T.g G.T.b G.T.builtins G.T.nolimit hg hobj hints (Nat.le_trans hlen hn2) hr hF hb (fun H hO hS => hsp H a ns hlen hbits ?_) fun H e s' z => ?_
  · rcases hS with h | ⟨o2, its, m, hk, hc, _⟩
    · exact h
    · exact absurd hc (noLst_of hK hk)
  · obtain ⟨_, _, _, _, _, _, _, _, _, _, _, _, z⟩ := z
    exact z.elim
/-- the law's promise, from what its def does -/
theorem law_sp {K : PySem.W.Frag} {mg : Str → Option Value} {f : List D → Res D} {H : Hp} {a : Addr} {ns : List Int} (h : Rd H a (.lst (ns.map V.int))) (e : f [.lst (ns.map D.int)] = .ok (.bl true)) :
    spF ⟨K, mg, none⟩ 1 f 0 [.ref a] H (fun v _ => v = .bl true) fun _ _ _ => False := by
  refine ⟨[.lst (ns.map D.int)], H, rfl, Same.refl _, Reps.one ?_, ?_⟩
  · unfold Rep
    exact ⟨a, _, rfl, h, Reps.of_ints ns⟩
  · rw [e]
    intro v H' Hs' Fr st o
    have z := (Own.zero.mp o).2
    unfold Rep at z
    exact z
end VL
/-! VLMath: reckoning with what the pieces do. -/
namespace VL
open PySem
theorem nrf {α : Type} {a b : α} (h : a = b) : a = b := h
/-! ### evaluation, for simp -/
section
variable {η : Env} {a b c : M D} {mas mbs : M (List D)} {qa qb : M Bool} {f g : D → D → Res D} {m n : Env → Fl} {i k : Nat} {d : D} {o : Option D}
@[simp] theorem ev_var0 : dVar 0 (some d :: η) = .ok d := nrf rfl
@[simp] theorem ev_varS : dVar (i + 1) (o :: η) = dVar i η := nrf rfl
@[simp] theorem ev_lit : dLit d η = .ok d := nrf rfl
@[simp] theorem ev_op1 {f : D → Res D} : dOp1 f a η = (a η).bind f := nrf rfl
@[simp] theorem ev_op2 : dOp2 f a b η = (a η).bind fun x => (b η).bind fun y => f x y := nrf rfl
@[simp] theorem ev_chain : dChain f g a b c η = (a η).bind fun x => (b η).bind fun y => (f x y).bind fun r => (toB r).bind fun k => if k then (c η).bind fun z => g y z else .ok (.bl false) := nrf rfl
@[simp] theorem ev_and : dAnd a b η = (a η).bind fun x => (toB x).bind fun k => if k then b η else .ok (.bl false) := nrf rfl
@[simp] theorem ev_or : dOr a b η = (a η).bind fun x => (toB x).bind fun k => if k then .ok (.bl true) else b η := nrf rfl
@[simp] theorem ev_not : dNot a η = (a η).bind fun x => (toB x).bind fun k => .ok (.bl (!k)) := nrf rfl
@[simp] theorem ev_qB : qB a η = (a η).bind toB := nrf rfl
@[simp] theorem ev_qTru : qTru a η = (a η).bind D.truth := nrf rfl
@[simp] theorem ev_qAnd : qAnd qa qb η = (qa η).bind fun k => if k then qb η else .ok false := nrf rfl
@[simp] theorem ev_qOr : qOr qa qb η = (qa η).bind fun k => if k then .ok true else qb η := nrf rfl
@[simp] theorem ev_qNot : qNot qa η = (qa η).bind fun k => .ok (!k) := nrf rfl
@[simp] theorem ev_if : dIf qa a b η = (qa η).bind fun k => if k then a η else b η := nrf rfl
@[simp] theorem ev_nil : aNil η = .ok [] := nrf rfl
@[simp] theorem ev_cons : aCons a mas η = (a η).bind fun x => (mas η).bind fun xs => .ok (x :: xs) := nrf rfl
@[simp] theorem ev_tup : dTup mas η = (mas η).bind fun xs => if xs.length ≤ line then .ok (.tup xs) else .stuck := nrf rfl
@[simp] theorem ev_lst : dLst mas η = (mas η).bind fun xs => if xs.length ≤ line then .ok (.lst xs) else .stuck := nrf rfl
@[simp] theorem ev_call {f : List D → Res D} : dCall f mas η = (mas η).bind f := nrf rfl
@[simp] theorem ev_callK {f : List D → List D → Res D} : dCallK f mas mbs η = (mas η).bind fun xs => (mbs η).bind fun ys => f xs ys := nrf rfl
@[simp] theorem ev_oSome : oSome a η = (a η).bind toI := nrf rfl
@[simp] theorem ev_iSeq : iSeq a η = (a η).bind items := nrf rfl
@[simp] theorem ev_iRev : iRev a η = (a η).bind fun x => (lstOf x).bind fun xs => .ok xs.reverse := nrf rfl
@[simp] theorem ev_iEnum : iEnum a η = (a η).bind fun x => (lstOf x).bind fun xs => .ok (enumD 0 xs) := nrf rfl
@[simp] theorem ev_iZip : iZip a b η = (a η).bind fun x => (b η).bind fun y => (lstOf x).bind fun xs => (lstOf y).bind fun ys => .ok (zipD xs ys) := nrf rfl
@[simp] theorem ev_bind {α β : Type} (x : α) (f : α → Res β) : (Res.ok x).bind f = f x := nrf rfl
@[simp] theorem ev_bindE {α β : Type} (e : Er) (f : α → Res β) : (Res.exc e : Res α).bind f = .exc e := nrf rfl
@[simp] theorem ev_bindS {α β : Type} (f : α → Res β) : (Res.stuck : Res α).bind f = .stuck := nrf rfl
@[simp] theorem ev_toB {x : Bool} : toB (.bl x) = .ok x := nrf rfl
@[simp] theorem ev_toI {x : Int} : toI (.int x) = .ok (some x) := nrf rfl
@[simp] theorem ev_items {xs : List D} : items (.lst xs) = .ok xs := nrf rfl
@[simp] theorem ev_itemsT {xs : List D} : items (.tup xs) = .ok xs := nrf rfl
@[simp] theorem ev_lstOf {xs : List D} : lstOf (.lst xs) = .ok xs := nrf rfl
@[simp] theorem ev_truB {x : Bool} : D.truth (.bl x) = .ok x := nrf rfl
@[simp] theorem ev_truI {x : Int} : D.truth (.int x) = .ok (x != 0) := nrf rfl
@[simp] theorem ev_truN : D.truth .non = .ok false := nrf rfl
@[simp] theorem ev_truL {x : List D} : D.truth (.lst x) = .ok (!x.isEmpty) := nrf rfl
/-! operators at ints -/
@[simp] theorem ev_add {x y : Int} : opAdd (.int x) (.int y) = .ok (.int (x + y)) := nrf rfl
@[simp] theorem ev_addI {x y : Int} : opAddI (.int x) (.int y) = .ok (.int (x + y)) := nrf rfl
@[simp] theorem ev_sub {x y : Int} : opSub (.int x) (.int y) = .ok (.int (x - y)) := nrf rfl
theorem ev_mul {x y : Int} (h : mulOk x y = true) : opMul (.int x) (.int y) = .ok (.int (x * y)) := if_pos h
theorem ev_mulL {xs : List D} {k : Int} (h1 : k < 16777217) (h2 : -16777217 < k) (h3 : xs.length * k.toNat ≤ line) : opMul (.lst xs) (.int k) = .ok (.lst (List.replicate k.toNat xs).flatten) := if_pos ⟨h1, h2, h3⟩
theorem ev_div {x y : Int} (h : divOk x y = true) : opDiv (.int x) (.int y) = .ok (.int (x / y)) := if_pos h
theorem ev_mod {x y : Int} (h : 0 < y) : opMod (.int x) (.int y) = .ok (.int (x % y)) := if_pos h
theorem ev_pow {x y : Int} (h : powOk x y = true) : opPow (.int x) (.int y) = .ok (.int (x ^ y.toNat)) := if_pos h
theorem ev_shl {x y : Int} (h : shlOk x y = true) : opShl (.int x) (.int y) = .ok (.int (x * 2 ^ y.toNat)) := if_pos h
theorem ev_shr {x y : Int} (h : 0 ≤ y) : opShr (.int x) (.int y) = .ok (.int (x / 2 ^ y.toNat)) := if_pos h
theorem ev_bitAnd {x y : Int} : opAnd (.int x) (.int y) = .ok (.int (Builtin.bitAnd x y)) := rfl
theorem ev_bitOr {x y : Int} : opOr (.int x) (.int y) = .ok (.int (Builtin.bitOr x y)) := rfl
theorem ev_bitXor {x y : Int} : opXor (.int x) (.int y) = .ok (.int (Builtin.bitXor x y)) := rfl
@[simp] theorem ev_neg {x : Int} : opNeg (.int x) = .ok (.int (-x)) := nrf rfl
@[simp] theorem ev_cmp {p : Int → Int → Bool} {x y : Int} : cmpI p (.int x) (.int y) = .ok (.bl (p x y)) := nrf rfl
@[simp] theorem ev_eqI {x y : Int} : opEq (.int x) (.int y) = .ok (.bl (decide (x = y))) := nrf rfl
@[simp] theorem ev_neI {x y : Int} : opNe (.int x) (.int y) = .ok (.bl (!decide (x = y))) := nrf rfl
@[simp] theorem ev_eqB {x y : Bool} : opEq (.bl x) (.bl y) = .ok (.bl (decide (x = y))) := by cases x <;> cases y <;> rfl
@[simp] theorem ev_neB {x y : Bool} : opNe (.bl x) (.bl y) = .ok (.bl (!decide (x = y))) := by cases x <;> cases y <;> rfl
@[simp] theorem ev_abs {x : Int} : fAbs [.int x] = .ok (.int (if x < 0 then -x else x)) := nrf rfl
@[simp] theorem ev_int {x : Int} : fInt [.int x] = .ok (.int x) := nrf rfl
@[simp] theorem ev_intB {x : Bool} : fInt [.bl x] = .ok (.int (if x then 1 else 0)) := nrf rfl
@[simp] theorem ev_len {xs : List D} : fLen [.lst xs] = .ok (.int xs.length) := nrf rfl
@[simp] theorem ev_lenT {xs : List D} : fLen [.tup xs] = .ok (.int xs.length) := nrf rfl
@[simp] theorem ev_max2 {x y : Int} : fMax2 [.int x, .int y] = .ok (.int (if y > x then y else x)) := nrf rfl
@[simp] theorem ev_min2 {x y : Int} : fMin2 [.int x, .int y] = .ok (.int (if y < x then y else x)) := nrf rfl
@[simp] theorem ev_list {xs : List D} : fList [.lst xs] = .ok (.lst xs) := nrf rfl
@[simp] theorem ev_listT {xs : List D} : fList [.tup xs] = .ok (.lst xs) := nrf rfl
@[simp] theorem ev_tuple {xs : List D} : fTuple [.lst xs] = .ok (.tup xs) := nrf rfl
@[simp] theorem ev_tupleT {xs : List D} : fTuple [.tup xs] = .ok (.tup xs) := nrf rfl
@[simp] theorem ty_int {x : Int} : opIsTy "int" (.int x) = .ok (.bl true) := nrf rfl
@[simp] theorem ty_intb {x : Int} : opIsTy "bool" (.int x) = .ok (.bl false) := nrf rfl
@[simp] theorem ty_boolb {x : Bool} : opIsTy "bool" (.bl x) = .ok (.bl true) := nrf rfl
@[simp] theorem ty_booli {x : Bool} : opIsTy "int" (.bl x) = .ok (.bl true) := nrf rfl
@[simp] theorem ty_lst {x : List D} : opIsTy "list" (.lst x) = .ok (.bl true) := nrf rfl
@[simp] theorem ty_tup {x : List D} : opIsTy "tuple" (.tup x) = .ok (.bl true) := nrf rfl
@[simp] theorem ty_lsti {x : List D} : opIsTy "int" (.lst x) = .ok (.bl false) := nrf rfl
@[simp] theorem ty_tupl {x : List D} : opIsTy "list" (.tup x) = .ok (.bl false) := nrf rfl
@[simp] theorem ty_lstt {x : List D} : opIsTy "tuple" (.lst x) = .ok (.bl false) := nrf rfl
@[simp] theorem ev_isNone : opIsNone d = .ok (.bl d.isNon) := nrf rfl
@[simp] theorem ev_notNone : opNotNone d = .ok (.bl (!d.isNon)) := nrf rfl
/-! items -/
theorem ix_nat {n : Nat} {j : Nat} (h : j < n) : ixOf n (j : Int) = some j := by
  unfold ixOf
  rw [if_pos (by omega), if_pos (by omega), Int.toNat_natCast]
theorem atD_nat {xs : List D} {j : Nat} {d : D} (h : xs[j]? = some d) : atD xs (j : Int) = some d := by
  unfold atD
  rw [ix_nat (List.getElem?_eq_some_iff.mp h).1]
  exact h
theorem ev_ix {xs : List D} {i : Int} {d : D} (h : atD xs i = some d) : opIx (.lst xs) (.int i) = .ok d := by
  show (match atD xs i with | some d => Res.ok d | none => .stuck) = _
  rw [h]
theorem ev_ixT {xs : List D} {i : Int} {d : D} (h : atD xs i = some d) : opIx (.tup xs) (.int i) = .ok d := by
  show (match atD xs i with | some d => Res.ok d | none => .stuck) = _
  rw [h]
theorem ev_ixN {xs : List D} {j : Nat} {d : D} (h : xs[j]? = some d) : opIx (.lst xs) (.int (j : Int)) = .ok d := ev_ix (atD_nat h)
@[simp] theorem ev_ix0 {xs : List D} : opIx (.lst (d :: xs)) (.int 0) = .ok d := ev_ix (atD_nat (j := 0) rfl)
@[simp] theorem ev_ixT0 {xs : List D} : opIx (.tup (d :: xs)) (.int 0) = .ok d := ev_ixT (atD_nat (j := 0) rfl)
@[simp] theorem ev_ixT1 {e : D} {xs : List D} : opIx (.tup (d :: e :: xs)) (.int 1) = .ok e := ev_ixT (atD_nat (j := 1) rfl)
@[simp] theorem ev_ixT2 {e e2 : D} {xs : List D} : opIx (.tup (d :: e :: e2 :: xs)) (.int 2) = .ok e2 := ev_ixT (atD_nat (j := 2) rfl)
@[simp] theorem ev_ix1 {e : D} {xs : List D} : opIx (.lst (d :: e :: xs)) (.int 1) = .ok e := ev_ix (atD_nat (j := 1) rfl)
/-! statements -/
@[simp] theorem ev_on {α : Type} {x : α} {k : α → Fl} : onRes (.ok x) η k = k x := nrf rfl
@[simp] theorem ev_onE {α : Type} {e : Er} {k : α → Fl} : onRes (.exc e) η k = .ex e η := nrf rfl
@[simp] theorem ev_next : sNext η = .nx η := nrf rfl
@[simp] theorem ev_break : sBreak η = .bk η := nrf rfl
@[simp] theorem ev_cont : sCont η = .ct η := nrf rfl
@[simp] theorem ev_seq : sSeq m n η = match m η with
  | .nx η' => n η'
  | r => r := nrf rfl
@[simp] theorem ev_expr : sExpr a η = onRes (a η) η fun _ => .nx η := nrf rfl
@[simp] theorem ev_asg {t : Bd} : sAsg a t η = onRes (a η) η fun d => match t d η with | some η' => .nx η' | none => .stuck := nrf rfl
@[simp] theorem ev_aug : sAug i f a η = onRes (dOp2 f (dVar i) a η) η fun d => if i < η.length then .nx (η.set i (some d)) else .stuck := nrf rfl
@[simp] theorem ev_set {x : M D} : sSet k x a η = onRes (a η) η fun d => onRes (lstAt η k) η fun xs => onRes (x η) η fun x => match x with
  | .int z => (match setD xs z d with | some ys => .nx (η.set k (some (.lst ys))) | none => .stuck)
  | _ => .stuck := nrf rfl
@[simp] theorem ev_app : sApp k a η = onRes (lstAt η k) η fun xs => onRes (a η) η fun d => if xs.length < line then .nx (η.set k (some (.lst (xs ++ [d])))) else .stuck := nrf rfl
@[simp] theorem ev_ret : sRet a η = onRes (a η) η fun d => .rt d := nrf rfl
@[simp] theorem ev_retN : sRetN η = .rt .non := nrf rfl
@[simp] theorem ev_sif : sIf qa m n η = onRes (qa η) η fun k => if k then m η else n η := nrf rfl
@[simp] theorem ev_raise {e : Er} : sRaise e η = .ex e η := nrf rfl
@[simp] theorem ev_for {it : M (List D)} {t : Bd} : sFor it t m η = onRes (it η) η fun xs => forGo t m xs η := nrf rfl
@[simp] theorem ev_forN {t : Bd} : forGo t m [] η = .nx η := nrf rfl
@[simp] theorem ev_forC {t : Bd} {x : D} {xs : List D} : forGo t m (x :: xs) η = (match t x η with
    | some η1 => (match m η1 with
      | .nx η' => forGo t m xs η'
      | .ct η' => forGo t m xs η'
      | .bk η' => .nx η'
      | r => r)
    | none => .stuck) := nrf rfl
@[simp] theorem ev_bname0 {o : Option D} : bName 0 d (o :: η) = some (some d :: η) := nrf rfl
@[simp] theorem ev_bnameS {o : Option D} : bName (i + 1) d (o :: η) = (bName i d η).map (o :: ·) := by
  unfold bName
  by_cases h : i < η.length <;> simp [h]
@[simp] theorem ev_btup {r : List D → Env → Option Env} {ds : List D} : bTup r (.tup ds) η = r ds η := nrf rfl
@[simp] theorem ev_bnil : bNil [] η = some η := nrf rfl
@[simp] theorem ev_bcons {t : Bd} {r : List D → Env → Option Env} {ds : List D} : bCons t r (d :: ds) η = (t d η).bind (r ds) := nrf rfl
@[simp] theorem ev_lstAt0 {xs : List D} : lstAt (some (.lst xs) :: η) 0 = .ok xs := nrf rfl
@[simp] theorem ev_lstAtS : lstAt (o :: η) (i + 1) = lstAt η i := nrf rfl
@[simp] theorem ev_lenAt : lenAt k η = (lstAt η k).bind fun xs => .ok (.int xs.length) := nrf rfl
@[simp] theorem ev_isEr {e c : Er} (h : (e.own && c.own) = true) : dIsEr e c η = .ok (.bl (e.sub c)) := if_pos h
theorem mk_fn {n m : Nat} {body : Env → Fl} {ds : List D} (h : ds.length = n) : mkFn n m body ds = match body (ds.map some ++ List.replicate (m - n) none) with
  | .rt d => .ok d
  | .nx _ => .ok .non
  | .ex e _ => .exc e
  | _ => .stuck := if_pos h
theorem sPar_ap {i j : Nat} : sPar i j a b η = onRes ((a η).bind fun x => (b η).bind fun y => .ok (x, y)) η fun r => if i < η.length ∧ j < η.length then .nx ((η.set i (some r.1)).set j (some r.2)) else .stuck := rfl
end
@[simp] theorem le_line {n : Nat} (h : n ≤ 100000) : n ≤ line := by unfold line; omega
@[simp] theorem lt_line {n : Nat} (h : n ≤ 100000) : n < line := by unfold line; omega
theorem lim_in {n : Nat} (hn : n ≤ 1000000000) : -lim62 ≤ (n : Int) ∧ (n : Int) < lim62 := by
  have h : lim62 = 4611686018427387904 := rfl
  rw [h]; omega
theorem iRange_ok {a : M D} {η : Env} {n : Nat} (h : a η = .ok (.int n)) (hn : n ≤ 1000000000) : iRange1 a η = .ok (rangeD 0 n) := by
  unfold iRange1
  rw [h, ev_bind]
  show (if -lim62 ≤ (n : Int) ∧ (n : Int) < lim62 then Res.ok (rangeD 0 (n : Int).toNat) else .stuck) = _
  rw [if_pos (lim_in hn), Int.toNat_natCast]
theorem range_len {lo : Int} {n : Nat} : (rangeD lo n).length = n := by simp [rangeD]
theorem ev_mulN {xs : List D} {k : Nat} (h1 : k ≤ 100000) (h3 : xs.length * k ≤ 100000) : opMul (.lst xs) (.int (k : Int)) = .ok (.lst (List.replicate k xs).flatten) := by
  rw [ev_mulL (by omega) (by omega) (le_line (by rw [Int.toNat_natCast]; exact h3)), Int.toNat_natCast]
theorem ev_addL {xs ys : List D} (h : xs.length + ys.length ≤ 100000) : opAdd (.lst xs) (.lst ys) = .ok (.lst (xs ++ ys)) := if_pos (le_line h)
/-! slices -/
@[simp] theorem ev_oNone {η : Env} : (oNone : M (Option Int)) η = .ok none := nrf rfl
@[simp] theorem ev_slL {η : Env} {a : M D} {lo hi : M (Option Int)} : dSlL a lo hi η = (a η).bind fun x => (lo η).bind fun l => (hi η).bind fun h => opSlL x l h := nrf rfl
@[simp] theorem ev_sl {η : Env} {a : M D} {lo hi : M (Option Int)} : dSl a lo hi η = (a η).bind fun x => (lo η).bind fun l => (hi η).bind fun h => opSl x l h := nrf rfl
@[simp] theorem op_slL {xs : List D} {l h : Option Int} : opSlL (.lst xs) l h = .ok (.lst (cutD xs l h)) := nrf rfl
theorem cut_map {f : Int → D} {xs : List Int} {lo hi : Option Int} : ∃ ys : List Int, cutD (xs.map f) lo hi = ys.map f ∧ (∀ y ∈ ys, y ∈ xs) := by
  refine ⟨(xs.drop (slIx xs.length 0 lo)).take (slIx xs.length xs.length hi - slIx xs.length 0 lo), ?_, fun y hy => List.mem_of_mem_drop (List.mem_of_mem_take hy)⟩
  unfold cutD
  rw [List.length_map, ← List.map_drop, ← List.map_take]
/-! ### loops -/
theorem forGo_nx {t : Bd} {m : Env → Fl} {x : D} {xs : List D} {η η1 η' : Env} (h1 : t x η = some η1) (h2 : m η1 = .nx η') : forGo t m (x :: xs) η = forGo t m xs η' := by
  rw [ev_forC, h1]
  simp only [h2]
theorem forGo_ct {t : Bd} {m : Env → Fl} {x : D} {xs : List D} {η η1 η' : Env} (h1 : t x η = some η1) (h2 : m η1 = .ct η') : forGo t m (x :: xs) η = forGo t m xs η' := by
  rw [ev_forC, h1]
  simp only [h2]
theorem forGo_bk {t : Bd} {m : Env → Fl} {x : D} {xs : List D} {η η1 η' : Env} (h1 : t x η = some η1) (h2 : m η1 = .bk η') : forGo t m (x :: xs) η = .nx η' := by
  rw [ev_forC, h1]
  simp only [h2]
theorem forGo_rt {t : Bd} {m : Env → Fl} {x : D} {xs : List D} {η η1 : Env} {d : D} (h1 : t x η = some η1) (h2 : m η1 = .rt d) : forGo t m (x :: xs) η = .rt d := by
  rw [ev_forC, h1]
  simp only [h2]
theorem forGo_ex {t : Bd} {m : Env → Fl} {x : D} {xs : List D} {η η1 η' : Env} {er : Er} (h1 : t x η = some η1) (h2 : m η1 = .ex er η') : forGo t m (x :: xs) η = .ex er η' := by
  rw [ev_forC, h1]
  simp only [h2]
theorem forGo_inv {t : Bd} {m : Env → Fl} (P : List D → Env → Prop) (step : ∀ x xs η, P (x :: xs) η → ∃ η1 η', t x η = some η1 ∧ (m η1 = .nx η' ∨ m η1 = .ct η') ∧ P xs η') : ∀ xs η, P xs η → ∃ η', forGo t m xs η = .nx η' ∧ P [] η'
  | [], η, h => ⟨η, rfl, h⟩
  | x :: xs, η, h => by
    obtain ⟨η1, η', e1, e2, h2⟩ := step x xs η h
    obtain ⟨η2, e3, h3⟩ := forGo_inv P step xs η' h2
    refine ⟨η2, ?_, h3⟩
    rw [ev_forC, e1]
    rcases e2 with e2 | e2 <;> (simp only [e2]; exact e3)
theorem forGo_keep {t : Bd} {m : Env → Fl} (I : Env → Prop) : ∀ (xs : List D), (∀ x ∈ xs, ∀ η, I η → ∃ η1 η', t x η = some η1 ∧ (m η1 = .nx η' ∨ m η1 = .ct η') ∧ I η') → ∀ η, I η → ∃ η', forGo t m xs η = .nx η' ∧ I η'
  | [], _, η, h => ⟨η, rfl, h⟩
  | x :: xs, hs, η, h => by
    obtain ⟨η1, η', e1, e2, h2⟩ := hs x (List.mem_cons_self ..) η h
    obtain ⟨η2, e3, h3⟩ := forGo_keep I xs (fun y hy => hs y (List.mem_cons_of_mem _ hy)) η' h2
    refine ⟨η2, ?_, h3⟩
    rw [ev_forC, e1]
    rcases e2 with e2 | e2 <;> (simp only [e2]; exact e3)
theorem compGo_map {t : Bd} {e : M D} {η : Env} {g : D → D} : ∀ (xs acc : List D), (∀ x ∈ xs, ∃ η1, t x η = some η1 ∧ e η1 = .ok (g x)) → acc.length + xs.length ≤ line → compGo t qYes e η xs acc = .ok (acc ++ xs.map g)
  | [], acc, _, _ => by unfold compGo; simp
  | x :: xs, acc, h, hl => by
    obtain ⟨η1, e1, e2⟩ := h x (List.mem_cons_self ..)
    unfold compGo
    rw [e1]
    simp only [e2]
    rw [if_pos (by simp at hl; omega), compGo_map xs _ (fun y hy => h y (List.mem_cons_of_mem _ hy)) (by simp at hl ⊢; omega)]
    simp
theorem dComp_map {it : M (List D)} {t : Bd} {e : M D} {own : List Nat} {η : Env} {xs : List D} (g : D → D) (h1 : it η = .ok xs) (h : ∀ x ∈ xs, ∃ η1, t x (wipeE η own) = some η1 ∧ e η1 = .ok (g x)) (hl : xs.length ≤ line) : dComp it t qYes e own η = .ok (.lst (xs.map g)) := by
  unfold dComp
  rw [h1, ev_bind, compGo_map xs [] h (by simpa using hl)]
  rfl
/-! ### how great an int is -/
def Sz (n : Nat) (i : Int) : Prop := i.natAbs < 2 ^ n
theorem Sz.mono {n m : Nat} {i : Int} (h : Sz n i) (l : n ≤ m) : Sz m i := Nat.lt_of_lt_of_le h (Nat.pow_le_pow_right (by decide) l)
theorem Sz.neg {n : Nat} {i : Int} (h : Sz n i) : Sz n (-i) := by unfold Sz at *; rwa [Int.natAbs_neg]
theorem Sz.mul {n m : Nat} {i j : Int} (h : Sz n i) (k : Sz m j) : Sz (n + m) (i * j) := by
  unfold Sz at *
  rw [Int.natAbs_mul, Nat.pow_add]
  exact Nat.mul_lt_mul'' h k
theorem Sz.add {n : Nat} {i j : Int} (h : Sz n i) (k : Sz n j) : Sz (n + 1) (i + j) := by
  unfold Sz at *
  have := Int.natAbs_add_le i j
  rw [Nat.pow_succ]
  omega
theorem Sz.sub {n : Nat} {i j : Int} (h : Sz n i) (k : Sz n j) : Sz (n + 1) (i - j) := by
  rw [Int.sub_eq_add_neg]
  exact h.add k.neg
theorem Sz.le {n : Nat} {i j : Int} (h : Sz n j) (k : i.natAbs ≤ j.natAbs) : Sz n i := Nat.lt_of_le_of_lt k h
theorem Sz.of_range {n : Nat} {i j : Int} (h : Sz n j) (h1 : 0 ≤ i) (h2 : i ≤ j) : Sz n i := h.le (by omega)
theorem Sz.mod {m : Nat} {i j : Int} (h : Sz m j) (hj : 0 < j) : Sz m (i % j) := h.of_range (Int.emod_nonneg _ (by omega)) (Int.le_of_lt (Int.emod_lt_of_pos _ hj))
theorem Sz.div {n : Nat} {i j : Int} (h : Sz n i) (hj : 0 < j) : Sz n (i / j) := by
  refine h.le ?_
  have e := Int.ediv_mul_add_emod i j  
  have p := Int.emod_nonneg i (show j ≠ 0 by omega)
  have q := Int.emod_lt_of_pos i hj
  by_cases hi : 0 ≤ i
  · have a := Int.ediv_nonneg hi (Int.le_of_lt hj)
    have b := Int.ediv_le_self j hi
    omega
  · have a : i / j < 0 := Int.ediv_neg_of_neg_of_pos (by omega) hj
    have b : i ≤ i / j := by
      have c : (i / j) * j ≤ (i / j) * 1 := Int.mul_le_mul_of_nonpos_left (by omega) (by omega)
      have : i / j * j + i % j = i := e
      rw [Int.mul_one] at c
      by_cases hz : i ≤ i / j
      · exact hz
      · exfalso
        have d : (i / j + 1) * j ≤ 0 := Int.mul_nonpos_of_nonpos_of_nonneg (by omega) (by omega)
        rw [Int.add_mul, Int.one_mul] at d
        have d2 : (i / j + 1) * j ≤ (i / j + 1) * 1 := Int.mul_le_mul_of_nonpos_left (by omega) (by omega)
        rw [Int.add_mul, Int.one_mul, Int.mul_one] at d2
        omega
    omega
theorem Sz.log {n : Nat} {i : Int} (h : Sz (n + 1) i) : i.natAbs.log2 ≤ n := by
  by_cases hz : i.natAbs = 0
  · rw [hz]; exact Nat.zero_le _
  · have := (Nat.log2_lt hz).mpr h
    omega
theorem Sz.lit {n : Nat} {i : Int} (h : decide (i.natAbs < 2 ^ n) = true) : Sz n i := show i.natAbs < 2 ^ n from of_decide_eq_true h
theorem Sz.ofbits {i : Int} {n : Nat} (h : Builtin.Int.intBits i ≤ n) : Sz n i := by
  unfold Sz
  unfold Builtin.Int.intBits at h
  by_cases hz : i.natAbs = 0
  · rw [hz]; exact Nat.two_pow_pos n
  · have hi : (i == 0) = false := by
      have : i ≠ 0 := by omega
      simpa using this
    rw [hi] at h
    exact (Nat.log2_lt hz).mp (by simp at h; omega)
theorem mul_ok {n m : Nat} {i j : Int} (h : Sz n i) (k : Sz m j) (l : n + m ≤ 100000000) : mulOk i j = true := by
  unfold mulOk
  have a := (h.mono (Nat.le_add_right n 1)).log
  have b := (k.mono (Nat.le_add_right m 1)).log
  exact decide_eq_true (by omega)
theorem div_ok {i j : Int} (hj : 0 < j) (k : Sz 9000 j) : divOk i j = true := by
  unfold divOk
  have b := Sz.log (n := 8999) k
  simp [hj]
  left; omega
end VL
/-! VLEq: == of values without bools. -/
namespace VL
open PySem
mutual
def D.nb : D → Bool
  | .non => true
  | .int _ => true
  | .str x => PyData.strOk x
  | .lst xs => D.nbs xs
  | .tup xs => D.nbs xs
  | .bl _ => false
  | .byt _ => false
  | .ins _ _ => false
def D.nbs : List D → Bool
  | [] => true
  | d :: ds => D.nb d && D.nbs ds
end
mutual
def D.dep : D → Nat
  | .lst xs => D.deps xs + 1
  | .tup xs => D.deps xs + 1
  | .non => 0
  | .int _ => 0
  | .str _ => 0
  | .bl _ => 0
  | .byt _ => 0
  | .ins _ _ => 0
def D.deps : List D → Nat
  | [] => 0
  | d :: ds => max (D.dep d) (D.deps ds)
end
mutual
theorem dep_pd : ∀ d : D, d.nb = true → PyData.depth d.toPD = d.dep
  | .non, _ => rfl
  | .int _, _ => rfl
  | .str _, _ => rfl
  | .lst xs, h => by
    unfold D.nb at h
    unfold D.toPD PyData.depth D.dep
    rw [deps_pd xs h]
  | .tup xs, h => by
    unfold D.nb at h
    unfold D.toPD PyData.depth D.dep
    rw [deps_pd xs h]
  | .bl _, h => by cases h
  | .byt _, h => by cases h
  | .ins _ _, h => by cases h
theorem deps_pd : ∀ ds : List D, D.nbs ds = true → PyData.depthAll (D.toPDs ds) = D.deps ds
  | [], _ => rfl
  | d :: ds, h => by
    unfold D.nbs at h
    obtain ⟨h1, h2⟩ := Bool.and_eq_true_iff.mp h
    unfold D.toPDs PyData.depthAll D.deps
    rw [dep_pd d h1, deps_pd ds h2]
end
mutual
theorem plain_nb : ∀ d : D, d.nb = true → d.plain = true ∧ PyData.canLay0 d.toPD = true
  | .non, _ => ⟨rfl, rfl⟩
  | .int _, _ => ⟨rfl, rfl⟩
  | .str _, h => ⟨rfl, h⟩
  | .lst xs, h => plains_nb xs h
  | .tup xs, h => plains_nb xs h
  | .bl _, h => by cases h
  | .byt _, h => by cases h
  | .ins _ _, h => by cases h
theorem plains_nb : ∀ ds : List D, D.nbs ds = true → D.plains ds = true ∧ PyData.canLayAll0 (D.toPDs ds) = true
  | [], _ => ⟨rfl, rfl⟩
  | d :: ds, h => by
    unfold D.nbs at h
    obtain ⟨h1, h2⟩ := Bool.and_eq_true_iff.mp h
    obtain ⟨a1, a2⟩ := plain_nb d h1
    obtain ⟨b1, b2⟩ := plains_nb ds h2
    unfold D.plains D.toPDs PyData.canLayAll0
    rw [a1, a2, b1, b2]
    exact ⟨rfl, rfl⟩
end
theorem eqOk_nb {d : D} (h : d.nb = true) (hd : d.dep ≤ 64) : d.eqOk = true := by
  obtain ⟨h1, h2⟩ := plain_nb d h
  unfold D.eqOk SeqAt.shaped
  rw [h1, h2, dep_pd d h]
  simpa using hd
mutual
theorem eqv_nb : ∀ a b : D, a.nb = true → b.nb = true → (D.eqv a b = true ↔ a = b)
  | .non, b, _, hb => by cases b <;> first | (cases hb; done) | simp [D.eqv, D.toPD, PyData.eqv]
  | .int i, b, _, hb => by cases b <;> first | (cases hb; done) | simp [D.eqv, D.toPD, PyData.eqv]
  | .str x, b, _, hb => by cases b <;> first | (cases hb; done) | simp [D.eqv, D.toPD, PyData.eqv]
  | .lst xs, b, ha, hb => by
    cases b <;> first | (cases hb; done) | (simp [D.eqv, D.toPD, PyData.eqv]; done) | skip
    rename_i ys
    have z := eqvs_nb xs ys ha hb
    simp only [D.eqv, D.toPD, PyData.eqv, D.lst.injEq]
    exact z
  | .tup xs, b, ha, hb => by
    cases b <;> first | (cases hb; done) | (simp [D.eqv, D.toPD, PyData.eqv]; done) | skip
    rename_i ys
    have z := eqvs_nb xs ys ha hb
    simp only [D.eqv, D.toPD, PyData.eqv, D.tup.injEq]
    exact z
  | .bl _, _, h, _ => by cases h
  | .byt _, _, h, _ => by cases h
  | .ins _ _, _, h, _ => by cases h
theorem eqvs_nb : ∀ as bs : List D, D.nbs as = true → D.nbs bs = true → (PyData.eqvAll (D.toPDs as) (D.toPDs bs) = true ↔ as = bs)
  | [], [], _, _ => by simp [D.toPDs, PyData.eqvAll]
  | [], b :: bs, _, _ => by simp [D.toPDs, PyData.eqvAll]
  | a :: as, [], _, _ => by simp [D.toPDs, PyData.eqvAll]
  | a :: as, b :: bs, ha, hb => by
    unfold D.nbs at ha hb
    obtain ⟨a1, a2⟩ := Bool.and_eq_true_iff.mp ha
    obtain ⟨b1, b2⟩ := Bool.and_eq_true_iff.mp hb
    have z1 := eqv_nb a b a1 b1
    have z2 := eqvs_nb as bs a2 b2
    unfold D.eqv at z1
    simp only [D.toPDs, PyData.eqvAll, Bool.and_eq_true, z1, z2, List.cons.injEq]
end
theorem eq_nb {a b : D} (ha : a.nb = true) (hb : b.nb = true) (da : a.dep ≤ 64) (db : b.dep ≤ 64) : opEq a b = .ok (.bl (D.eqv a b)) := by
  unfold opEq
  rw [eqOk_nb ha da, eqOk_nb hb db]
  rfl
theorem ne_nb {a b : D} (ha : a.nb = true) (hb : b.nb = true) (da : a.dep ≤ 64) (db : b.dep ≤ 64) : opNe a b = .ok (.bl (!D.eqv a b)) := by
  unfold opNe
  rw [eqOk_nb ha da, eqOk_nb hb db]
  rfl
theorem nbs_ints : ∀ xs : List Int, D.nbs (xs.map D.int) = true
  | [] => rfl
  | x :: xs => by
    show (D.nb (.int x) && D.nbs (xs.map D.int)) = true
    rw [nbs_ints xs]; rfl
theorem deps_ints : ∀ xs : List Int, D.deps (xs.map D.int) = 0
  | [] => rfl
  | x :: xs => by
    show max (D.dep (.int x)) (D.deps (xs.map D.int)) = 0
    rw [deps_ints xs]; rfl
theorem map_int_inj {xs ys : List Int} : xs.map D.int = ys.map D.int ↔ xs = ys := by
  constructor
  · exact fun h => List.map_inj_right (fun a b q => by cases q; rfl) |>.mp h
  · rintro rfl; rfl
/-- == of int lists -/
theorem eq_ints {xs ys : List Int} : opEq (.lst (xs.map D.int)) (.lst (ys.map D.int)) = .ok (.bl (decide (xs = ys))) := by
  have hx : (D.lst (xs.map D.int)).nb = true := nbs_ints xs
  have hy : (D.lst (ys.map D.int)).nb = true := nbs_ints ys
  have dx : (D.lst (xs.map D.int)).dep = 1 := congrArg (· + 1) (deps_ints xs)
  have dy : (D.lst (ys.map D.int)).dep = 1 := congrArg (· + 1) (deps_ints ys)
  rw [eq_nb hx hy (by omega) (by omega)]
  have z := eqv_nb _ _ hx hy
  congr 2
  rw [Bool.eq_iff_iff, z, decide_eq_true_iff, D.lst.injEq, map_int_inj]
theorem ne_ints {xs ys : List Int} : opNe (.lst (xs.map D.int)) (.lst (ys.map D.int)) = .ok (.bl (!decide (xs = ys))) := by
  have hx : (D.lst (xs.map D.int)).nb = true := nbs_ints xs
  have hy : (D.lst (ys.map D.int)).nb = true := nbs_ints ys
  have dx : (D.lst (xs.map D.int)).dep = 1 := congrArg (· + 1) (deps_ints xs)
  have dy : (D.lst (ys.map D.int)).dep = 1 := congrArg (· + 1) (deps_ints ys)
  rw [ne_nb hx hy (by omega) (by omega)]
  have z := eqv_nb _ _ hx hy
  congr 3
  rw [Bool.eq_iff_iff, z, decide_eq_true_iff, D.lst.injEq, map_int_inj]
theorem eq_self {a : D} (ha : a.nb = true) (da : a.dep ≤ 64) : opEq a a = .ok (.bl true) := by
  rw [eq_nb ha ha da da, (eqv_nb a a ha ha).mpr rfl]
end VL
/-! VLNum: plain numbers. -/
namespace VL
open PySem
def cen (a k : Int) : Int := k / 2 - (k / 2 - a) % k
theorem div2 (k : Int) : divOk k 2 = true := div_ok (by decide) (Sz.lit (by decide +kernel))
theorem two2 : Sz 2 (2 : Int) := Sz.lit (by decide)
def digs (b : Int) : Nat → Int → List Int × Int
  | 0, v => ([], v)
  | n + 1, v => (cen v b :: (digs b n ((v - cen v b) / b)).1, (digs b n ((v - cen v b) / b)).2)
def hor (b : Int) : Int → List Int → Int
  | n, [] => n
  | n, d :: ds => hor b (n * b + d) ds
def fd (b r : Int) : List Int → Int
  | [] => r
  | d :: ds => fd b r ds * b + d
theorem hor_app (b : Int) : ∀ (n : Int) (xs ys : List Int), hor b n (xs ++ ys) = hor b (hor b n xs) ys
  | n, [], ys => rfl
  | n, x :: xs, ys => by simp [hor, hor_app b]
theorem hor_rev (b r : Int) : ∀ ds : List Int, hor b r ds.reverse = fd b r ds
  | [] => rfl
  | d :: ds => by simp [hor_app, hor_rev b r ds, fd, hor]
def tot (b : Int) : Nat → Int
  | 0 => 0
  | n + 1 => tot b n * b + 1
theorem tot_sz {b : Int} (hz : Sz 17 b) : ∀ n, Sz (18 * n + 1) (tot b n)
  | 0 => Sz.lit (n := 1) (i := 0) (by decide)
  | n + 1 => (((tot_sz hz n).mul hz).add (Sz.mono (Sz.lit (n := 1) (by decide)) (by omega))).mono (by omega)
theorem lit_div {i j : Int} (h : 0 < j) (k : decide (j.natAbs < 2 ^ 9000) = true) : divOk i j = true := div_ok h (Sz.lit k)
def absI (x : Int) : Int := if x < 0 then -x else x
theorem cen_facts {a k : Int} (h : 1 ≤ k) : -k < 2 * cen a k ∧ 2 * cen a k ≤ k ∧ -((k - 1) / 2) ≤ cen a k ∧ cen a k ≤ k / 2 := by
  unfold cen
  have e1 := Int.emod_nonneg (k / 2 - a) (show k ≠ 0 by omega)
  have e2 := Int.emod_lt_of_pos (k / 2 - a) (show 0 < k by omega)
  refine ⟨?_, ?_, ?_, ?_⟩ <;> omega
theorem cen_dvd {a k : Int} (h : 1 ≤ k) : (a - cen a k) % k = 0 ∧ (a - cen a k) / k * k = a - cen a k := by
  have e : a - cen a k = k * (-((k / 2 - a) / k)) := by
    unfold cen
    have e3 := Int.mul_ediv_add_emod (k / 2 - a) k
    rw [Int.mul_neg]
    omega
  constructor
  · rw [e, Int.mul_emod_right]
  · rw [Int.ediv_mul_cancel]
    rw [e]
    exact Int.dvd_mul_right _ _
theorem digs_len (b : Int) : ∀ n v, (digs b n v).1.length = n
  | 0, v => rfl
  | n + 1, v => by simp [digs, digs_len b n]
theorem digs_dig {b : Int} (hb : 1 ≤ b) : ∀ n v, ∀ d ∈ (digs b n v).1, -b < 2 * d ∧ 2 * d ≤ b ∧ -((b - 1) / 2) ≤ d ∧ d ≤ b / 2
  | 0, v, d, h => by cases h
  | n + 1, v, d, h => by
    simp only [digs, List.mem_cons] at h
    rcases h with rfl | h
    · exact cen_facts hb
    · exact digs_dig hb n _ d h
theorem digs_val {b : Int} (hb : 1 ≤ b) : ∀ n v, fd b (digs b n v).2 (digs b n v).1 = v
  | 0, v => rfl
  | n + 1, v => by
    simp only [digs, fd]
    rw [digs_val hb n, (cen_dvd hb).2]
    omega
theorem digs_sz {b : Int} (hb : 1 ≤ b) (hz : Sz 17 b) : ∀ n v s, 18 ≤ s → Sz s v → Sz (s + n) (digs b n v).2
  | 0, v, s, _, h => h
  | n + 1, v, s, hs, h => by
    have c := cen_facts (a := v) hb
    have zc : Sz s (cen v b) := (hz.mono (by omega : 17 ≤ s)).le (by omega)
    have z := digs_sz hb hz n ((v - cen v b) / b) (s + 1) (by omega) ((h.sub zc).div (by omega))
    simp only [digs]
    exact z.mono (by omega)
theorem fd_split (b r : Int) : ∀ ds : List Int, fd b r ds = fd b 0 ds + r * b ^ ds.length
  | [] => by simp [fd]
  | d :: ds => by
    simp only [fd, List.length_cons, Int.pow_succ]
    rw [fd_split b r ds, Int.add_mul, Int.mul_assoc]
    omega
theorem fd_rg {b lo hi : Int} (hb : 0 ≤ b) : ∀ ds : List Int, (∀ d ∈ ds, lo ≤ d ∧ d ≤ hi) → lo * tot b ds.length ≤ fd b 0 ds ∧ fd b 0 ds ≤ hi * tot b ds.length
  | [], _ => by simp [fd, tot]
  | d :: ds, h => by
    have z := fd_rg hb ds fun x hx => h x (List.mem_cons_of_mem _ hx)
    have w := h d (List.mem_cons_self ..)
    simp only [fd, List.length_cons, tot, Int.mul_add, Int.mul_one, ← Int.mul_assoc]
    have z1 := Int.mul_le_mul_of_nonneg_right z.1 hb
    have z2 := Int.mul_le_mul_of_nonneg_right z.2 hb
    omega
theorem tot_pow (b : Int) : ∀ n, (b - 1) * tot b n + 1 = b ^ n
  | 0 => by simp [tot]
  | n + 1 => by
    have z := tot_pow b n
    rw [Int.pow_succ, ← z]
    simp only [tot, Int.mul_add, Int.add_mul, Int.mul_one, Int.one_mul, Int.mul_assoc]
    omega
theorem tot_nn {b : Int} (hb : 0 ≤ b) : ∀ n, 0 ≤ tot b n
  | 0 => Int.le_refl _
  | n + 1 => by
    have := Int.mul_nonneg (tot_nn hb n) hb
    simp only [tot]; omega
theorem rest_zero {b v : Int} {n : Nat} (hb : 1 ≤ b) : (digs b n v).2 = 0 ↔ -((b - 1) / 2) * tot b n ≤ v ∧ v ≤ b / 2 * tot b n := by
  have e := digs_val hb n v
  rw [fd_split, digs_len] at e
  have g := fd_rg (b := b) (lo := -((b - 1) / 2)) (hi := b / 2) (by omega) (digs b n v).1 fun d hd => (digs_dig hb n v d hd).2.2
  rw [digs_len] at g
  have p := tot_pow b n
  have t := tot_nn (b := b) (by omega) n
  generalize (digs b n v).2 = r at e ⊢
  generalize fd b 0 (digs b n v).1 = x at e g
  generalize hT : tot b n = T at g p t ⊢
  have hs : b / 2 + (b - 1) / 2 = b - 1 := by omega
  have q : b / 2 * T - (-((b - 1) / 2) * T) = (b - 1) * T := by rw [← Int.sub_mul]; congr 1; omega
  rw [← p] at e
  constructor
  · intro h
    rw [h, Int.zero_mul] at e
    omega
  · intro ⟨h1, h2⟩
    have t2 : 0 ≤ (b - 1) * T := Int.mul_nonneg (by omega) t
    generalize (b - 1) * T = W at e q t2
    by_cases h0 : r = 0
    · exact h0
    · exfalso
      by_cases hp : 0 < r
      · have : 1 * (W + 1) ≤ r * (W + 1) := Int.mul_le_mul_of_nonneg_right (by omega) (by omega)
        omega
      · have : r * (W + 1) ≤ -1 * (W + 1) := Int.mul_le_mul_of_nonneg_right (by omega) (by omega)
        omega
theorem tot_big {b : Int} (hb : 3 ≤ b) : ∀ n : Nat, 2 ^ n ≤ tot b n + 1
  | 0 => by simp [tot]
  | n + 1 => by
    have z := tot_big hb n
    have t := tot_nn (b := b) (by omega) n
    have m : tot b n * 3 ≤ tot b n * b := Int.mul_le_mul_of_nonneg_left hb t
    rw [Int.pow_succ]
    simp only [tot]
    omega
def cell (ns : List Int) (k : Nat) : Int := (ns[k]?).getD 0
theorem cell_sz {ns : List Int} (hb : ∀ z ∈ ns, Builtin.Int.intBits z ≤ 1048576) (k : Nat) : Sz 1048576 (cell ns k) := by
  unfold cell
  cases e : ns[k]? with
  | none => exact Sz.mono (Sz.lit (n := 1) (i := 0) (by decide)) (by decide)
  | some z => exact Sz.ofbits (hb z (List.mem_of_getElem? e))
/-- H is twice the half window: the degree is 2^n, there are 2^t slots -/
theorem pow_split {n t : Nat} (ht : t < n) : (2 : Int) ^ n = 2 ^ (n - t - 1) * (2 * 2 ^ t) := by
  have e : n = (n - t - 1) + (t + 1) := by omega
  rw [e, Int.pow_add, Int.pow_succ, Int.mul_comm (2 ^ t) 2]
  congr 2
  omega
theorem half_eq {n t : Nat} (ht : t < n) : (2 : Int) ^ n / (2 * 2 ^ t) = 2 ^ (n - t - 1) := by
  rw [pow_split ht, Int.mul_ediv_cancel]
  have : (0 : Int) < 2 ^ t := Int.pow_pos (by decide)
  omega
theorem pow_sz {n : Nat} : Sz (n + 1) ((2 : Int) ^ n) := by
  unfold Sz
  rw [Int.natAbs_pow]
  exact Nat.pow_lt_pow_right (by decide) (by omega)
theorem pow_le {n t : Nat} (ht : t < n) : 2 * (2 : Int) ^ t ≤ 2 ^ n := by
  have p := pow_split ht
  have q : (0 : Int) < 2 ^ (n - t - 1) := Int.pow_pos (by decide)
  have r : (0 : Int) < 2 ^ t := Int.pow_pos (by decide)
  have z : 1 * (2 * (2 : Int) ^ t) ≤ 2 ^ (n - t - 1) * (2 * 2 ^ t) := Int.mul_le_mul_of_nonneg_right (by omega) (by omega)
  omega
theorem pow2_pos {t : Nat} : (0 : Int) < 2 ^ t := Int.pow_pos (by decide)
theorem cen_uniq {v m c k : Int} (h : 1 ≤ m) (h1 : -m < 2 * c) (h2 : 2 * c ≤ m) (hk : v - c = m * k) : cen v m = c := by
  have f := cen_facts (a := v) h
  have dv := cen_dvd (a := v) h
  have e : v - cen v m = m * ((v - cen v m) / m) := by rw [Int.mul_comm]; exact dv.2.symm
  generalize (v - cen v m) / m = j at e
  have e2 : cen v m - c = m * (k - j) := by rw [Int.mul_sub]; omega
  by_cases hkj : k - j = 0
  · rw [hkj, Int.mul_zero] at e2; omega
  · exfalso
    by_cases hp : 0 < k - j
    · have : m * 1 ≤ m * (k - j) := Int.mul_le_mul_of_nonneg_left (by omega) (by omega)
      omega
    · have : m * (k - j) ≤ m * (-1) := Int.mul_le_mul_of_nonneg_left (by omega) (by omega)
      omega
theorem cen_mod {v m : Int} (h : 1 ≤ m) : (if 2 * (v % m) > m then v % m - m else v % m) = cen v m := by
  have a1 := Int.emod_nonneg v (show m ≠ 0 by omega)
  have a2 := Int.emod_lt_of_pos v (show 0 < m by omega)
  have e3 := Int.mul_ediv_add_emod v m
  split
  · exact (cen_uniq h (by omega) (by omega) (k := v / m + 1) (by rw [Int.mul_add]; omega)).symm
  · exact (cen_uniq h (by omega) (by omega) (k := v / m) (by omega)).symm
theorem cen_shift {v w m k : Int} (h : 1 ≤ m) (e : v - w = m * k) : cen v m = cen w m := by
  have f := cen_facts (a := w) h
  have dv := cen_dvd (a := w) h
  refine cen_uniq h f.1 f.2.1 (k := k + (w - cen w m) / m) ?_
  rw [Int.mul_add, Int.mul_comm m ((w - cen w m) / m), dv.2]
  omega
theorem rangeD_succ {s : Int} {m : Nat} : rangeD s (m + 1) = .int s :: rangeD (s + 1) m := by
  unfold rangeD
  rw [List.range_succ_eq_map, List.map_cons, List.map_map, List.cons.injEq]
  refine ⟨by simp, List.map_congr_left fun k _ => ?_⟩
  show D.int (s + ((k + 1 : Nat) : Int)) = D.int (s + 1 + (k : Int))
  congr 1; omega
theorem rangeD_zero {s : Int} : rangeD s 0 = [] := rfl
/-- the window of a slot -/
theorem window_iff {n t : Nat} {p s : Int} (ht : t < n) (s0 : 0 ≤ s) (s1 : s < 2 * 2 ^ t) :
    (-(2 : Int) ^ (n - t - 1) ≤ cen (p - 2 * 2 ^ (n - t - 1) * s) (2 * 2 ^ n) ∧ cen (p - 2 * 2 ^ (n - t - 1) * s) (2 * 2 ^ n) < 2 ^ (n - t - 1)) ↔ s = (p + 2 ^ (n - t - 1)) % (2 * 2 ^ n) / (2 * 2 ^ (n - t - 1)) := by
  have ph : (0 : Int) < 2 ^ (n - t - 1) := pow2_pos
  have pt : (0 : Int) < 2 ^ t := pow2_pos
  have pn : (0 : Int) < 2 ^ n := pow2_pos
  have sp := pow_split ht
  have e0 : (2 : Int) * 2 ^ n = 2 * 2 ^ (n - t - 1) * (2 * 2 ^ t) := by rw [sp, Int.mul_assoc]
  generalize (2 : Int) ^ (n - t - 1) = g at *
  generalize hS : 2 * (2 : Int) ^ t = S at *
  generalize hM : 2 * (2 : Int) ^ n = M at *
  have f := cen_facts (a := p - 2 * g * s) (k := M) (by omega)
  have dv := (cen_dvd (a := p - 2 * g * s) (k := M) (by omega)).2
  have x0 := Int.emod_nonneg (p + g) (show M ≠ 0 by omega)
  have x1 := Int.emod_lt_of_pos (p + g) (show 0 < M by omega)
  have x2 := Int.mul_ediv_add_emod (p + g) M
  generalize (p + g) / M = j2 at x2
  generalize (p + g) % M = x at x0 x1 x2 ⊢
  constructor
  · intro ⟨h1, h2⟩
    generalize cen (p - 2 * g * s) M = c at f dv h1 h2
    generalize (p - 2 * g * s - c) / M = j at dv
    have ex : x = (c + g) + 2 * g * (s + S * (j - j2)) := by
      rw [Int.mul_add, ← Int.mul_assoc, ← e0, Int.mul_sub]
      rw [Int.mul_comm] at dv
      omega
    have u := (Int.ediv_emod_unique (a := x) (b := 2 * g) (r := c + g) (q := s + S * (j - j2)) (by omega)).mpr ⟨ex.symm, by omega, by omega⟩
    rw [u.1]
    have q0 : 0 ≤ x / (2 * g) := Int.ediv_nonneg x0 (by omega)
    have q1 : x / (2 * g) < S := by
      refine Int.ediv_lt_of_lt_mul (by omega) ?_
      rw [Int.mul_comm, ← e0]; exact x1
    rw [u.1] at q0 q1
    by_cases hj : j - j2 = 0
    · rw [hj, Int.mul_zero, Int.add_zero]
    · exfalso
      by_cases hp : 0 < j - j2
      · have : S * 1 ≤ S * (j - j2) := Int.mul_le_mul_of_nonneg_left (by omega) (by omega)
        omega
      · have : S * (j - j2) ≤ S * (-1) := Int.mul_le_mul_of_nonneg_left (by omega) (by omega)
        omega
  · intro hs
    have r0 := Int.emod_nonneg x (show 2 * g ≠ 0 by omega)
    have r1 := Int.emod_lt_of_pos x (show 0 < 2 * g by omega)
    have r2 := Int.mul_ediv_add_emod x (2 * g)
    rw [← hs] at r2
    have big : 2 * g * 2 ≤ M := by
      rw [e0]
      exact Int.mul_le_mul_of_nonneg_left (by omega) (by omega)
    have u : cen (p - 2 * g * s) M = x % (2 * g) - g := cen_uniq (by omega) (by omega) (by omega) (k := j2) (by omega)
    rw [u]
    omega
/-! lists of ints -/
theorem comp_ints {it : M (List D)} {t : Bd} {e : M D} {own : List Nat} {η : Env} {xs : List Int} (g : Int → Int) (h1 : it η = .ok (xs.map D.int)) (h : ∀ x ∈ xs, ∃ η1, t (.int x) (wipeE η own) = some η1 ∧ e η1 = .ok (.int (g x))) (hl : xs.length ≤ 100000) : dComp it t qYes e own η = .ok (.lst ((xs.map g).map D.int)) := by
  have z := dComp_map (it := it) (t := t) (e := e) (own := own) (η := η) (xs := xs.map D.int) (fun d => match d with | .int i => .int (g i) | d => d) h1 (fun x hx => by
    obtain ⟨i, hi, rfl⟩ := List.mem_map.mp hx
    exact h i hi) (le_line (by simpa using hl))
  rw [z, List.map_map, List.map_map]
  rfl
theorem compGo_filt {t : Bd} {q : M Bool} {e : M D} {η : Env} {p : D → Bool} {g : D → D} : ∀ (xs acc : List D), (∀ x ∈ xs, ∃ η1, t x η = some η1 ∧ q η1 = .ok (p x) ∧ (p x = true → e η1 = .ok (g x))) → acc.length + xs.length ≤ line → compGo t q e η xs acc = .ok (acc ++ (xs.filter p).map g)
  | [], acc, _, _ => by unfold compGo; simp
  | x :: xs, acc, h, hl => by
    obtain ⟨η1, e1, e2, e3⟩ := h x (List.mem_cons_self ..)
    have hr := fun y hy => h y (List.mem_cons_of_mem _ hy)
    unfold compGo
    rw [e1]
    simp only [e2]
    cases hp : p x with
    | true =>
      simp only [e3 hp]
      rw [if_pos (by simp at hl; omega), compGo_filt xs _ hr (by simp at hl ⊢; omega)]
      simp [hp]
    | false =>
      simp only []
      rw [compGo_filt xs _ hr (by simp at hl ⊢; omega)]
      simp [hp]
theorem comp_filt {it : M (List D)} {t : Bd} {q : M Bool} {e : M D} {own : List Nat} {η : Env} {xs : List Int} (p : Int → Bool) (g : Int → Int) (h1 : it η = .ok (xs.map D.int)) (h : ∀ x ∈ xs, ∃ η1, t (.int x) (wipeE η own) = some η1 ∧ q η1 = .ok (p x) ∧ (p x = true → e η1 = .ok (.int (g x)))) (hl : xs.length ≤ 100000) : dComp it t q e own η = .ok (.lst (((xs.filter p).map g).map D.int)) := by
  unfold dComp
  rw [h1, ev_bind, compGo_filt (p := fun d => match d with | .int i => p i | _ => false) (g := fun d => match d with | .int i => .int (g i) | d => d) (xs.map D.int) [] (fun x hx => by
    obtain ⟨i, hi, rfl⟩ := List.mem_map.mp hx
    exact h i hi) (by simp; exact le_line hl)]
  rw [List.filter_map, List.map_map, List.map_map]
  rfl
theorem ints_of : ∀ xs : List Int, ints? (xs.map D.int) = some xs
  | [] => rfl
  | x :: xs => by
    show (ints? (xs.map D.int)).map (x :: ·) = _
    rw [ints_of xs]; rfl
theorem sum_ints (xs : List Int) : fSum [.lst (xs.map D.int)] = .ok (.int xs.sum) := by
  show (match ints? (xs.map D.int) with | some ns => Res.ok (D.int ns.sum) | _ => .stuck) = _
  rw [ints_of]
theorem max_ints (x : Int) (xs : List Int) : fMax [.lst ((x :: xs).map D.int)] = .ok (.int (maxL (x :: xs))) := by
  show (match ints? ((x :: xs).map D.int) with | some (a :: r) => Res.ok (D.int (maxL (a :: r))) | _ => .stuck) = _
  rw [ints_of]
theorem ints_get {ts : List Int} {k : Int} (h0 : 0 ≤ k) (h1 : k < (ts.length : Nat)) : opIx (.lst (ts.map D.int)) (.int k) = .ok (.int (ts.getD k.toNat 0)) := by
  have e : k = ((k.toNat : Nat) : Int) := (Int.toNat_of_nonneg h0).symm
  have l : k.toNat < ts.length := by omega
  have g : (ts.map D.int)[k.toNat]? = some (.int (ts.getD k.toNat 0)) := by
    rw [List.getElem?_map, List.getElem?_eq_getElem l, List.getD_eq_getElem?_getD, List.getElem?_eq_getElem l]; rfl
  have z := ev_ixN g
  rw [← e] at z
  exact z
theorem ints_at {ts : List Int} {k : Nat} {x : Int} (h : ts[k]? = some x) : opIx (.lst (ts.map D.int)) (.int (k : Int)) = .ok (.int x) := ev_ixN (by rw [List.getElem?_map, h]; rfl)
/-! bits -/
def rnd (v d : Int) : Int := (2 * v + d) / (2 * d)
def sel : Int → List Int → Int
  | _, [] => 0
  | n, x :: xs => (if n % 2 = 1 then x else 0) + sel (n / 2) xs
def msk (p : Int → Bool) : List Int → Int
  | [] => 0
  | x :: xs => (if p x then 1 else 0) + 2 * msk p xs
def sumP (p : Int → Bool) (xs : List Int) : Int := (xs.filter p).sum
theorem sel_msk (p : Int → Bool) : ∀ xs : List Int, sel (msk p xs) xs = sumP p xs
  | [] => rfl
  | x :: xs => by
    have ih := sel_msk p xs
    unfold sumP at *
    cases hp : p x with
    | true =>
      simp only [sel, msk, hp, if_true, List.filter_cons, List.sum_cons]
      rw [if_pos (by omega), show (1 + 2 * msk p xs) / 2 = msk p xs by omega, ih]
    | false =>
      simp only [sel, msk, hp, List.filter_cons, Bool.false_eq_true, if_false]
      rw [if_neg (by omega), show (0 + 2 * msk p xs) / 2 = msk p xs by omega, ih, Int.zero_add]
theorem msk_rg (p : Int → Bool) : ∀ xs : List Int, 0 ≤ msk p xs ∧ msk p xs < 2 ^ xs.length
  | [] => ⟨Int.le_refl _, by simp [msk]⟩
  | x :: xs => by
    have ih := msk_rg p xs
    simp only [msk, List.length_cons, Int.pow_succ]
    split <;> omega
def pos (x : Int) : Bool := decide (0 < x)
def neg (x : Int) : Bool := decide (x < 0)
theorem sel_rg : ∀ (n : Int) (xs : List Int), sumP neg xs ≤ sel n xs ∧ sel n xs ≤ sumP pos xs
  | _, [] => ⟨Int.le_refl _, Int.le_refl _⟩
  | n, x :: xs => by
    have ih := sel_rg (n / 2) xs
    unfold sumP at *
    simp only [sel, List.filter_cons]
    by_cases h1 : 0 < x
    · rw [show pos x = true from decide_eq_true h1, show neg x = false from decide_eq_false (by omega)]
      simp only [Bool.false_eq_true, if_true, if_false, List.sum_cons]
      split <;> omega
    · by_cases h2 : x < 0
      · rw [show pos x = false from decide_eq_false h1, show neg x = true from decide_eq_true h2]
        simp only [Bool.false_eq_true, if_true, if_false, List.sum_cons]
        split <;> omega
      · rw [show pos x = false from decide_eq_false h1, show neg x = false from decide_eq_false h2]
        simp only [Bool.false_eq_true, if_false]
        split <;> omega
theorem sel_zero : ∀ xs : List Int, sel 0 xs = 0
  | [] => rfl
  | x :: xs => by simp [sel, sel_zero xs]
theorem sel_neg (f : Int → Int) : ∀ (n : Int) (xs : List Int), sel n (xs.map f) = sel n (xs.map f)
  | _, _ => rfl
theorem div_pow_succ (n : Int) (k : Nat) : n / 2 ^ (k + 1) = n / 2 ^ k / 2 := by
  rw [Int.pow_succ, Int.ediv_ediv_of_nonneg (Int.le_of_lt (Int.pow_pos (by decide)))]
theorem bit_one {z : Int} (h : 0 ≤ z) : Builtin.bitAnd z 1 = z % 2 := by
  unfold Builtin.bitAnd
  have h1 : decide (0 ≤ z) = true := decide_eq_true h
  rw [h1]
  show (((z.toNat &&& (1 : Int).toNat : Nat)) : Int) = z % 2
  rw [show (1 : Int).toNat = 1 from rfl, Nat.and_one_is_mod]
  omega
theorem bit_low {z : Int} (h : 0 ≤ z) (k : Nat) : Builtin.bitAnd z (2 ^ k - 1) = z % 2 ^ k := by
  unfold Builtin.bitAnd
  have p := pow2_pos (t := k)
  have h1 : decide (0 ≤ z) = true := decide_eq_true h
  have h2 : decide (0 ≤ (2 : Int) ^ k - 1) = true := decide_eq_true (by omega)
  rw [h1, h2]
  show (((z.toNat &&& ((2 : Int) ^ k - 1).toNat : Nat)) : Int) = z % 2 ^ k
  have e : ((2 : Int) ^ k - 1).toNat = 2 ^ k - 1 := by
    have : ((2 ^ k : Nat) : Int) = (2 : Int) ^ k := by rw [Int.natCast_pow]; rfl
    omega
  rw [e, Nat.and_two_pow_sub_one_eq_mod, Int.natCast_emod, Int.toNat_of_nonneg h, Int.natCast_pow]; rfl
/-- a bit, as the programs look at it -/
theorem ev_bit {n : Int} {k : Nat} (h : 0 ≤ n) : (opShr (.int n) (.int (k : Int))) = .ok (.int (n / 2 ^ k)) := by
  rw [ev_shr (by omega), Int.toNat_natCast]
theorem div_nn {n : Int} (h : 0 ≤ n) (k : Nat) : 0 ≤ n / 2 ^ k := Int.ediv_nonneg h (Int.le_of_lt pow2_pos)
end VL
namespace K39
open PySem VL
/-! def check_modulus(k), line 9: slots 0 k -/
noncomputable def b_check_modulus : VL.Env → Fl :=
 (sIf (qB (dOp2 opLt (dVar 0) (dLit (.int 1))))
 (sRaise .range)
 sNext)
noncomputable def f_check_modulus : List D → Res D := mkFn 1 1 b_check_modulus
/-! def centred(a, k), line 12: slots 0 a, 1 k -/
noncomputable def b_centred : VL.Env → Fl :=
 (sSeq (sExpr (dCall f_check_modulus (aCons (dVar 1) aNil)))
 (sRet (dOp2 opSub (dOp2 opDiv (dVar 1) (dLit (.int 2))) (dOp2 opMod (dOp2 opSub (dOp2 opDiv (dVar 1) (dLit (.int 2))) (dVar 0)) (dVar 1)))))
noncomputable def f_centred : List D → Res D := mkFn 2 2 b_centred
/-! def round_div(a, b), line 15: slots 0 a, 1 b -/
noncomputable def b_round_div : VL.Env → Fl :=
 (sSeq (sExpr (dCall f_check_modulus (aCons (dVar 1) aNil)))
 (sRet (dOp2 opDiv (dOp2 opAdd (dOp2 opMul (dLit (.int 2)) (dVar 0)) (dVar 1)) (dOp2 opMul (dLit (.int 2)) (dVar 1)))))
noncomputable def f_round_div : List D → Res D := mkFn 2 2 b_round_div
/-! def centred_row(modulus, numbers, last), line 19: slots 0 modulus, 1 numbers, 2 last, 3 number -/
noncomputable def c_centred_row_0 : M D :=
 (dCall f_centred (aCons (dVar 3) (aCons (dVar 0) aNil)))
noncomputable def b_centred_row : VL.Env → Fl :=
 (sRet (dTup (aCons (dComp (iSeq (dVar 1)) (bName 3) qYes c_centred_row_0 [3]) (aCons (dCall f_centred (aCons (dVar 2) (aCons (dVar 0) aNil))) aNil))))
noncomputable def f_centred_row : List D → Res D := mkFn 3 4 b_centred_row
/-! def check_lower(modulus, lower), line 21: slots 0 modulus, 1 lower -/
noncomputable def b_check_lower : VL.Env → Fl :=
 (sIf (qOr (qB (dOp2 opLt (dVar 1) (dLit (.int 2)))) (qB (dOp2 opGt (dVar 1) (dVar 0))))
 (sRaise .range)
 sNext)
noncomputable def f_check_lower : List D → Res D := mkFn 2 2 b_check_lower
/-! def row_lower(modulus, row, lower), line 24: slots 0 modulus, 1 row, 2 lower, 3 numbers, 4 number -/
noncomputable def c_row_lower_0 : M D :=
 (dCall f_round_div (aCons (dOp2 opMul (dVar 2) (dVar 4)) (aCons (dVar 0) aNil)))
noncomputable def b_row_lower : VL.Env → Fl :=
 (sSeq (sExpr (dCall f_check_lower (aCons (dVar 0) (aCons (dVar 2) aNil))))
 (sSeq (sAsg (dComp (iSeq (dOp2 opIx (dVar 1) (dLit (.int 0)))) (bName 4) qYes c_row_lower_0 [4]) (bName 3))
 (sRet (dCall f_centred_row (aCons (dVar 2) (aCons (dVar 3) (aCons (dCall f_round_div (aCons (dOp2 opMul (dVar 2) (dOp2 opIx (dVar 1) (dLit (.int 1)))) (aCons (dVar 0) aNil))) aNil)))))))
noncomputable def f_row_lower : List D → Res D := mkFn 3 5 b_row_lower
/-! def slip(modulus, number, lower), line 28: slots 0 modulus, 1 number, 2 lower -/
noncomputable def b_slip : VL.Env → Fl :=
 (sRet (dOp2 opSub (dOp2 opMul (dVar 2) (dVar 1)) (dOp2 opMul (dVar 0) (dCall f_round_div (aCons (dOp2 opMul (dVar 2) (dVar 1)) (aCons (dVar 0) aNil))))))
noncomputable def f_slip : List D → Res D := mkFn 3 3 b_slip
/-! def row_slips(modulus, row, lower), line 30: slots 0 modulus, 1 row, 2 lower, 3 number -/
noncomputable def c_row_slips_0 : M D :=
 (dCall f_slip (aCons (dVar 0) (aCons (dVar 3) (aCons (dVar 2) aNil))))
noncomputable def b_row_slips : VL.Env → Fl :=
 (sSeq (sExpr (dCall f_check_lower (aCons (dVar 0) (aCons (dVar 2) aNil))))
 (sRet (dTup (aCons (dComp (iSeq (dOp2 opIx (dVar 1) (dLit (.int 0)))) (bName 3) qYes c_row_slips_0 [3]) (aCons (dCall f_slip (aCons (dVar 0) (aCons (dOp2 opIx (dVar 1) (dLit (.int 1))) (aCons (dVar 2) aNil)))) aNil)))))
noncomputable def f_row_slips : List D → Res D := mkFn 3 4 b_row_slips
/-! def reach(start, others), line 34: slots 0 start, 1 others, 2 above, 3 below, 4 other -/
noncomputable def cq_reach_0 : M Bool :=
 (qB (dOp2 opGt (dVar 4) (dLit (.int 0))))
noncomputable def cq_reach_1 : M Bool :=
 (qB (dOp2 opLt (dVar 4) (dLit (.int 0))))
noncomputable def b_reach : VL.Env → Fl :=
 (sSeq (sAsg (dCall fSum (aCons (dComp (iSeq (dVar 1)) (bName 4) cq_reach_0 (dVar 4) [4]) aNil)) (bName 2))
 (sSeq (sAsg (dCall fSum (aCons (dComp (iSeq (dVar 1)) (bName 4) cq_reach_1 (dVar 4) [4]) aNil)) (bName 3))
 (sRet (dCall fMax2 (aCons (dOp2 opAdd (dVar 0) (dVar 2)) (aCons (dOp2 opSub (dOp1 opNeg (dVar 0)) (dVar 3)) aNil))))))
noncomputable def f_reach : List D → Res D := mkFn 2 5 b_reach
/-! def lower_seen(modulus, row, lower), line 38: slots 0 modulus, 1 row, 2 lower, 3 slips, 4 last -/
noncomputable def b_lower_seen : VL.Env → Fl :=
 (sSeq (sAsg (dCall f_row_slips (aCons (dVar 0) (aCons (dVar 1) (aCons (dVar 2) aNil)))) (bTup (bCons (bName 3) (bCons (bName 4) bNil))))
 (sRet (dCall f_reach (aCons (dOp1 opNeg (dVar 4)) (aCons (dVar 3) aNil)))))
noncomputable def f_lower_seen : List D → Res D := mkFn 3 5 b_lower_seen
/-! def lower_planned(modulus, length), line 41: slots 0 modulus, 1 length -/
noncomputable def b_lower_planned : VL.Env → Fl :=
 (sRet (dOp2 opDiv (dOp2 opMul (dOp2 opAdd (dVar 1) (dLit (.int 1))) (dVar 0)) (dLit (.int 2))))
noncomputable def f_lower_planned : List D → Res D := mkFn 2 2 b_lower_planned
/-! def _law_cell(script, k), line 44: slots 0 script, 1 k -/
noncomputable def b__law_cell : VL.Env → Fl :=
 (sSeq (sIf (qB (dOp2 opLt (dVar 1) (dCall fLen (aCons (dVar 0) aNil))))
 (sRet (dCall fInt (aCons (dOp2 opIx (dVar 0) (dVar 1)) aNil)))
 sNext)
 (sRet (dLit (.int 0))))
noncomputable def f__law_cell : List D → Res D := mkFn 2 2 b__law_cell
/-! def _law_is_integer(actual), line 48: slots 0 actual -/
noncomputable def b__law_is_integer : VL.Env → Fl :=
 (sRet (dAnd (dOp1 (opIsTy "int") (dVar 0)) (dNot (dOp1 (opIsTy "bool") (dVar 0)))))
noncomputable def f__law_is_integer : List D → Res D := mkFn 1 1 b__law_is_integer
/-! def _law_wide(cell), line 50: slots 0 cell, 1 left, 2 state, 3 number, 4 k -/
noncomputable def w__law_wide_0 : VL.Env → Fl :=
 (sSeq (sAsg (dOp2 opMod (dCall fInt (aCons (dOp2 opMul (dVar 2) (dLit (.int 48271))) aNil)) (dLit (.int 2147483647))) (bName 2))
 (sAsg (dOp2 opAdd (dOp2 opMul (dVar 3) (dLit (.int 1073741824))) (dOp2 opMod (dCall fInt (aCons (dOp2 opAdd (dOp2 opDiv (dVar 2) (dLit (.int 5))) (dOp2 opMul (dVar 2) (dLit (.int 3)))) aNil)) (dLit (.int 1073741824)))) (bName 3)))
noncomputable def b__law_wide : VL.Env → Fl :=
 (sSeq (sAsg (dCall fAbs (aCons (dVar 0) aNil)) (bName 1))
 (sSeq (sIf (qB (dOp2 opGe (dVar 1) (dOp2 opPow (dLit (.int 10)) (dLit (.int 18)))))
 (sRet (dVar 1))
 sNext)
 (sSeq (sAsg (dOp2 opAdd (dOp2 opMod (dCall fInt (aCons (dVar 1) aNil)) (dLit (.int 2147483629))) (dLit (.int 1))) (bName 2))
 (sSeq (sAsg (dLit (.int 0)) (bName 3))
 (sSeq (sFor (iRange1 (dLit (.int 4))) (bName 4) w__law_wide_0)
 (sRet (dVar 3)))))))
noncomputable def f__law_wide : List D → Res D := mkFn 1 5 b__law_wide
/-! def _law_values(cell, count, low, high), line 60: slots 0 cell, 1 count, 2 low, 3 high, 4 values, 5 left, 6 great, 7 state, 8 k, 9 number -/
noncomputable def w__law_values_0 : VL.Env → Fl :=
 (sSeq (sAsg (dOp2 opMod (dCall fInt (aCons (dOp2 opMul (dVar 7) (dLit (.int 48271))) aNil)) (dLit (.int 2147483647))) (bName 7))
 (sSeq (sAsg (dCall fInt (aCons (dOp2 opDiv (dOp2 opMul (dOp2 opMul (dVar 7) (dVar 7)) (dVar 7)) (dLit (.int 5))) aNil)) (bName 9))
 (sSeq (sIf (qAnd (qTru (dVar 6)) (qB (dOp2 opGt (dVar 5) (dLit (.int 0)))))
 (sSeq (sAsg (dCall fInt (aCons (dVar 5) aNil)) (bName 9))
 (sAsg (dOp2 opDiv (dVar 5) (dOp2 opAdd (dOp2 opSub (dVar 3) (dVar 2)) (dLit (.int 1)))) (bName 5)))
 sNext)
 (sApp 4 (dOp2 opAdd (dVar 2) (dOp2 opMod (dCall fInt (aCons (dVar 9) aNil)) (dOp2 opAdd (dOp2 opSub (dVar 3) (dVar 2)) (dLit (.int 1)))))))))
noncomputable def b__law_values : VL.Env → Fl :=
 (sSeq (sAsg (dLst aNil) (bName 4))
 (sSeq (sAsg (dCall fAbs (aCons (dVar 0) aNil)) (bName 5))
 (sSeq (sAsg (dOp2 opGe (dVar 5) (dOp2 opPow (dLit (.int 10)) (dLit (.int 18)))) (bName 6))
 (sSeq (sAsg (dOp2 opAdd (dOp2 opMod (dCall fInt (aCons (dVar 5) aNil)) (dLit (.int 2147483629))) (dLit (.int 1))) (bName 7))
 (sSeq (sFor (iRange1 (dVar 1)) (bName 8) w__law_values_0)
 (sRet (dVar 4)))))))
noncomputable def f__law_values : List D → Res D := mkFn 4 10 b__law_values
/-! def _law_centred(value, modulus), line 73: slots 0 value, 1 modulus, 2 left -/
noncomputable def b__law_centred : VL.Env → Fl :=
 (sSeq (sAsg (dOp2 opMod (dCall fInt (aCons (dVar 0) aNil)) (dVar 1)) (bName 2))
 (sSeq (sIf (qB (dOp2 opGt (dOp2 opMul (dLit (.int 2)) (dVar 2)) (dVar 1)))
 (sAsg (dOp2 opSub (dVar 2) (dVar 1)) (bName 2))
 sNext)
 (sRet (dVar 2))))
noncomputable def f__law_centred : List D → Res D := mkFn 2 3 b__law_centred
/-! def _law_is_row(found, due), line 78: slots 0 found, 1 due, 2 k -/
noncomputable def w__law_is_row_0 : VL.Env → Fl :=
 (sIf (qOr (qNot (qTru (dCall f__law_is_integer (aCons (dOp2 opIx (dVar 0) (dVar 2)) aNil)))) (qB (dOp2 opNe (dOp2 opIx (dVar 0) (dVar 2)) (dOp2 opIx (dVar 1) (dVar 2)))))
 (sRet (dLit (.bl false)))
 sNext)
noncomputable def b__law_is_row : VL.Env → Fl :=
 (sSeq (sIf (qOr (qNot (qTru (dOp1 (opIsTy "list") (dVar 0)))) (qB (dOp2 opNe (dCall fLen (aCons (dVar 0) aNil)) (dCall fLen (aCons (dVar 1) aNil)))))
 (sRet (dLit (.bl false)))
 sNext)
 (sSeq (sFor (iRange1 (dCall fLen (aCons (dVar 1) aNil))) (bName 2) w__law_is_row_0)
 (sRet (dLit (.bl true)))))
noncomputable def f__law_is_row : List D → Res D := mkFn 2 3 b__law_is_row
/-! def _law_round(value, divisor), line 85: slots 0 value, 1 divisor -/
noncomputable def b__law_round : VL.Env → Fl :=
 (sRet (dOp2 opDiv (dOp2 opAdd (dOp2 opMul (dLit (.int 2)) (dVar 0)) (dVar 1)) (dOp2 opMul (dLit (.int 2)) (dVar 1))))
noncomputable def f__law_round : List D → Res D := mkFn 2 2 b__law_round
/-! def _law_refuses(modulus, row, lower), line 87: slots 0 modulus, 1 row, 2 lower, 3 turn, 4 refused, 5 e -/
noncomputable def w__law_refuses_0 : VL.Env → Fl :=
 (sSeq (sAsg (dLit (.bl false)) (bName 4))
 (sSeq (sTryAs (sIf (qB (dOp2 opEq (dVar 3) (dLit (.int 0))))
 (sExpr (dCall f_row_lower (aCons (dVar 0) (aCons (dVar 1) (aCons (dVar 2) aNil)))))
 (sExpr (dCall f_row_slips (aCons (dVar 0) (aCons (dVar 1) (aCons (dVar 2) aNil)))))) .range 5 (fun er => (sAsg (dAnd (dIsEr er .purse) (dNot (dIsEr er .malformed))) (bName 4))))
 (sIf (qNot (qTru (dVar 4)))
 (sRet (dLit (.bl false)))
 sNext)))
noncomputable def b__law_refuses : VL.Env → Fl :=
 (sSeq (sFor (iRange1 (dLit (.int 2))) (bName 3) w__law_refuses_0)
 (sRet (dLit (.bl true))))
noncomputable def f__law_refuses : List D → Res D := mkFn 3 6 b__law_refuses
/-! def _law_is_lowered(modulus, row, lower), line 100: slots 0 modulus, 1 row, 2 lower, 3 given, 4 found, 5 due, 6 slips, 7 last, 8 told, 9 number -/
noncomputable def c__law_is_lowered_0 : M D :=
 (dCall f__law_centred (aCons (dCall f__law_round (aCons (dOp2 opMul (dVar 2) (dVar 9)) (aCons (dVar 0) aNil))) (aCons (dVar 2) aNil)))
noncomputable def c__law_is_lowered_1 : M D :=
 (dOp2 opSub (dOp2 opMul (dVar 2) (dVar 9)) (dOp2 opMul (dVar 0) (dCall f__law_round (aCons (dOp2 opMul (dVar 2) (dVar 9)) (aCons (dVar 0) aNil)))))
noncomputable def t__law_is_lowered_0 : VL.Env → Fl :=
 (sSeq (sAsg (dComp (iSeq (dOp2 opIx (dVar 1) (dLit (.int 0)))) (bName 9) qYes c__law_is_lowered_1 [9]) (bName 6))
 (sSeq (sAsg (dOp2 opSub (dOp2 opMul (dVar 2) (dOp2 opIx (dVar 1) (dLit (.int 1)))) (dOp2 opMul (dVar 0) (dCall f__law_round (aCons (dOp2 opMul (dVar 2) (dOp2 opIx (dVar 1) (dLit (.int 1)))) (aCons (dVar 0) aNil))))) (bName 7))
 (sSeq (sAsg (dCall f_row_slips (aCons (dVar 0) (aCons (dVar 3) (aCons (dVar 2) aNil)))) (bName 8))
 (sSeq (sIf (qOr (qNot (qTru (dOp1 (opIsTy "tuple") (dVar 8)))) (qOr (qB (dOp2 opNe (dCall fLen (aCons (dVar 8) aNil)) (dLit (.int 2)))) (qNot (qTru (dCall f__law_is_row (aCons (dOp2 opIx (dVar 8) (dLit (.int 0))) (aCons (dVar 6) aNil)))))))
 (sRet (dLit (.bl false)))
 sNext)
 (sRet (dAnd (dCall f__law_is_integer (aCons (dOp2 opIx (dVar 8) (dLit (.int 1))) aNil)) (dAnd (dOp2 opEq (dOp2 opIx (dVar 8) (dLit (.int 1))) (dVar 7)) (dOp2 opEq (dVar 3) (dVar 1)))))))))
noncomputable def b__law_is_lowered : VL.Env → Fl :=
 (sSeq (sAsg (dTup (aCons (dCall fList (aCons (dOp2 opIx (dVar 1) (dLit (.int 0))) aNil)) (aCons (dOp2 opIx (dVar 1) (dLit (.int 1))) aNil))) (bName 3))
 (sSeq (sAsg (dCall f_row_lower (aCons (dVar 0) (aCons (dVar 3) (aCons (dVar 2) aNil)))) (bName 4))
 (sSeq (sAsg (dComp (iSeq (dOp2 opIx (dVar 1) (dLit (.int 0)))) (bName 9) qYes c__law_is_lowered_0 [9]) (bName 5))
 (sSeq (sIf (qOr (qNot (qTru (dOp1 (opIsTy "tuple") (dVar 4)))) (qOr (qB (dOp2 opNe (dCall fLen (aCons (dVar 4) aNil)) (dLit (.int 2)))) (qNot (qTru (dCall f__law_is_row (aCons (dOp2 opIx (dVar 4) (dLit (.int 0))) (aCons (dVar 5) aNil)))))))
 (sRet (dLit (.bl false)))
 sNext)
 (sSeq (sIf (qOr (qNot (qTru (dCall f__law_is_integer (aCons (dOp2 opIx (dVar 4) (dLit (.int 1))) aNil)))) (qB (dOp2 opNe (dOp2 opIx (dVar 4) (dLit (.int 1))) (dCall f__law_centred (aCons (dCall f__law_round (aCons (dOp2 opMul (dVar 2) (dOp2 opIx (dVar 1) (dLit (.int 1)))) (aCons (dVar 0) aNil))) (aCons (dVar 2) aNil))))))
 (sRet (dLit (.bl false)))
 sNext)
 t__law_is_lowered_0)))))
noncomputable def f__law_is_lowered : List D → Res D := mkFn 3 10 b__law_is_lowered
/-! def _law_drift(modulus, row, lower, number), line 114: slots 0 modulus, 1 row, 2 lower, 3 number, 4 z, 5 y, 6 k -/
noncomputable def w__law_drift_0 : VL.Env → Fl :=
 (sIf (qB (dOp2 opEq (dOp2 opAnd (dOp2 opShr (dVar 3) (dVar 6)) (dLit (.int 1))) (dLit (.int 1))))
 (sSeq (sAug 4 opSub (dOp2 opIx (dOp2 opIx (dVar 1) (dLit (.int 0))) (dVar 6)))
 (sAug 5 opSub (dCall f__law_round (aCons (dOp2 opMul (dVar 2) (dOp2 opIx (dOp2 opIx (dVar 1) (dLit (.int 0))) (dVar 6))) (aCons (dVar 0) aNil)))))
 sNext)
noncomputable def b__law_drift : VL.Env → Fl :=
 (sSeq (sAsg (dOp2 opIx (dVar 1) (dLit (.int 1))) (bName 4))
 (sSeq (sAsg (dCall f__law_round (aCons (dOp2 opMul (dVar 2) (dOp2 opIx (dVar 1) (dLit (.int 1)))) (aCons (dVar 0) aNil))) (bName 5))
 (sSeq (sFor (iRange1 (dCall fLen (aCons (dOp2 opIx (dVar 1) (dLit (.int 0))) aNil))) (bName 6) w__law_drift_0)
 (sRet (dOp2 opSub (dOp2 opMul (dVar 0) (dVar 5)) (dOp2 opMul (dVar 2) (dVar 4)))))))
noncomputable def f__law_drift : List D → Res D := mkFn 4 7 b__law_drift
/-! def _law_told(modulus, row, lower, number), line 122: slots 0 modulus, 1 row, 2 lower, 3 number, 4 slips, 5 last, 6 told, 7 k -/
noncomputable def w__law_told_0 : VL.Env → Fl :=
 (sIf (qB (dOp2 opEq (dOp2 opAnd (dOp2 opShr (dVar 3) (dVar 7)) (dLit (.int 1))) (dLit (.int 1))))
 (sAug 6 opAddI (dOp2 opIx (dVar 4) (dVar 7)))
 sNext)
noncomputable def b__law_told : VL.Env → Fl :=
 (sSeq (sAsg (dCall f_row_slips (aCons (dVar 0) (aCons (dVar 1) (aCons (dVar 2) aNil)))) (bTup (bCons (bName 4) (bCons (bName 5) bNil))))
 (sSeq (sAsg (dOp2 opSub (dLit (.int 0)) (dVar 5)) (bName 6))
 (sSeq (sFor (iRange1 (dCall fLen (aCons (dVar 4) aNil))) (bName 7) w__law_told_0)
 (sRet (dVar 6)))))
noncomputable def f__law_told : List D → Res D := mkFn 4 8 b__law_told
/-! def _law_asks(modulus, row, lower), line 129: slots 0 modulus, 1 row, 2 lower, 3 greatest, 4 number, 5 drift, 6 seen, 7 planned -/
noncomputable def w__law_asks_0 : VL.Env → Fl :=
 (sSeq (sAsg (dCall f__law_drift (aCons (dVar 0) (aCons (dVar 1) (aCons (dVar 2) (aCons (dVar 4) aNil))))) (bName 5))
 (sSeq (sIf (qB (dOp2 opNe (dVar 5) (dCall f__law_told (aCons (dVar 0) (aCons (dVar 1) (aCons (dVar 2) (aCons (dVar 4) aNil)))))))
 (sRet (dLit (.bl false)))
 sNext)
 (sAsg (dCall fMax2 (aCons (dVar 3) (aCons (dCall fAbs (aCons (dVar 5) aNil)) aNil))) (bName 3))))
noncomputable def b__law_asks : VL.Env → Fl :=
 (sSeq (sAsg (dLit (.int 0)) (bName 3))
 (sSeq (sFor (iRange1 (dOp2 opShl (dLit (.int 1)) (dCall fLen (aCons (dOp2 opIx (dVar 1) (dLit (.int 0))) aNil)))) (bName 4) w__law_asks_0)
 (sSeq (sAsg (dCall f_lower_seen (aCons (dVar 0) (aCons (dVar 1) (aCons (dVar 2) aNil)))) (bName 6))
 (sSeq (sAsg (dCall f_lower_planned (aCons (dVar 0) (aCons (dCall fLen (aCons (dOp2 opIx (dVar 1) (dLit (.int 0))) aNil)) aNil))) (bName 7))
 (sSeq (sIf (qOr (qNot (qTru (dCall f__law_is_integer (aCons (dVar 6) aNil)))) (qOr (qNot (qTru (dCall f__law_is_integer (aCons (dVar 7) aNil)))) (qB (dOp2 opNe (dVar 6) (dVar 3)))))
 (sRet (dLit (.bl false)))
 sNext)
 (sRet (dAnd (dOp2 opEq (dVar 7) (dOp2 opDiv (dOp2 opMul (dOp2 opAdd (dCall fLen (aCons (dOp2 opIx (dVar 1) (dLit (.int 0))) aNil)) (dLit (.int 1))) (dVar 0)) (dLit (.int 2)))) (dOp2 opLe (dVar 6) (dVar 7)))))))))
noncomputable def f__law_asks : List D → Res D := mkFn 3 8 b__law_asks
/-! def _law_reaches(cell), line 141: slots 0 cell, 1 others, 2 start, 3 greatest, 4 number, 5 total, 6 k, 7 given, 8 found -/
noncomputable def w__law_reaches_0 : VL.Env → Fl :=
 (sIf (qB (dOp2 opEq (dOp2 opAnd (dOp2 opShr (dVar 4) (dVar 6)) (dLit (.int 1))) (dLit (.int 1))))
 (sAug 5 opAddI (dOp2 opIx (dVar 1) (dVar 6)))
 sNext)
noncomputable def w__law_reaches_1 : VL.Env → Fl :=
 (sSeq (sAsg (dVar 2) (bName 5))
 (sSeq (sFor (iRange1 (dCall fLen (aCons (dVar 1) aNil))) (bName 6) w__law_reaches_0)
 (sAsg (dCall fMax2 (aCons (dVar 3) (aCons (dCall fAbs (aCons (dVar 5) aNil)) aNil))) (bName 3))))
noncomputable def b__law_reaches : VL.Env → Fl :=
 (sSeq (sAsg (dCall f__law_values (aCons (dOp2 opDiv (dVar 0) (dLit (.int 64))) (aCons (dOp2 opMod (dCall fInt (aCons (dVar 0) aNil)) (dLit (.int 7))) (aCons (dOp1 opNeg (dLit (.int 50))) (aCons (dLit (.int 50)) aNil))))) (bName 1))
 (sSeq (sAsg (dOp2 opSub (dOp2 opMod (dCall fInt (aCons (dOp2 opDiv (dVar 0) (dLit (.int 8))) aNil)) (dLit (.int 101))) (dLit (.int 50))) (bName 2))
 (sSeq (sAsg (dCall fAbs (aCons (dVar 2) aNil)) (bName 3))
 (sSeq (sFor (iRange1 (dOp2 opShl (dLit (.int 1)) (dCall fLen (aCons (dVar 1) aNil)))) (bName 4) w__law_reaches_1)
 (sSeq (sAsg (dCall fList (aCons (dVar 1) aNil)) (bName 7))
 (sSeq (sAsg (dCall f_reach (aCons (dVar 2) (aCons (dVar 7) aNil))) (bName 8))
 (sRet (dAnd (dCall f__law_is_integer (aCons (dVar 8) aNil)) (dAnd (dOp2 opEq (dVar 8) (dVar 3)) (dOp2 opEq (dVar 7) (dVar 1)))))))))))
noncomputable def f__law_reaches : List D → Res D := mkFn 1 9 b__law_reaches
/-! def _law_big(cell, count, low, high), line 154: slots 0 cell, 1 count, 2 low, 3 high, 4 pieces, 5 values, 6 k, 7 number, 8 piece -/
noncomputable def w__law_big_0 : VL.Env → Fl :=
 (sAsg (dOp2 opAdd (dOp2 opMul (dVar 7) (dOp2 opPow (dLit (.int 2)) (dLit (.int 60)))) (dVar 8)) (bName 7))
noncomputable def w__law_big_1 : VL.Env → Fl :=
 (sSeq (sAsg (dLit (.int 0)) (bName 7))
 (sSeq (sFor (iSeq (dSlL (dVar 4) (oSome (dOp2 opMul (dLit (.int 8)) (dVar 6))) (oSome (dOp2 opAdd (dOp2 opMul (dLit (.int 8)) (dVar 6)) (dLit (.int 8)))))) (bName 8) w__law_big_0)
 (sApp 5 (dOp2 opAdd (dVar 2) (dOp2 opMod (dCall fInt (aCons (dVar 7) aNil)) (dOp2 opAdd (dOp2 opSub (dVar 3) (dVar 2)) (dLit (.int 1))))))))
noncomputable def b__law_big : VL.Env → Fl :=
 (sSeq (sAsg (dCall f__law_values (aCons (dVar 0) (aCons (dOp2 opMul (dLit (.int 8)) (dVar 1)) (aCons (dLit (.int 0)) (aCons (dOp2 opSub (dOp2 opPow (dLit (.int 2)) (dLit (.int 60))) (dLit (.int 1))) aNil))))) (bName 4))
 (sSeq (sAsg (dLst aNil) (bName 5))
 (sSeq (sFor (iRange1 (dVar 1)) (bName 6) w__law_big_1)
 (sRet (dVar 5)))))
noncomputable def f__law_big : List D → Res D := mkFn 4 9 b__law_big
/-! def _law_any(cell, count, low, high), line 163: slots 0 cell, 1 count, 2 low, 3 high -/
noncomputable def b__law_any : VL.Env → Fl :=
 (sSeq (sIf (qB (dOp2 opLt (dOp2 opSub (dVar 3) (dVar 2)) (dOp2 opPow (dLit (.int 2)) (dLit (.int 64)))))
 (sRet (dCall f__law_values (aCons (dVar 0) (aCons (dVar 1) (aCons (dVar 2) (aCons (dVar 3) aNil))))))
 sNext)
 (sRet (dCall f__law_big (aCons (dVar 0) (aCons (dVar 1) (aCons (dVar 2) (aCons (dVar 3) aNil)))))))
noncomputable def f__law_any : List D → Res D := mkFn 4 4 b__law_any
/-! def _law_far(cell, modulus, lower), line 167: slots 0 cell, 1 modulus, 2 lower, 3 count, 4 low, 5 numbers, 6 row, 7 slips, 8 last, 9 above, 10 below, 11 drawn, 12 drifts, 13 seen, 14 planned, 15 k, 16 bit, 17 number, 18 drift -/
noncomputable def c__law_far_0 : M D :=
 (dOp2 opShl (dLit (.int 1)) (dVar 15))
noncomputable def cq__law_far_0 : M Bool :=
 (qB (dOp2 opGt (dOp2 opIx (dVar 7) (dVar 15)) (dLit (.int 0))))
noncomputable def c__law_far_1 : M D :=
 (dOp2 opShl (dLit (.int 1)) (dVar 15))
noncomputable def cq__law_far_1 : M Bool :=
 (qB (dOp2 opLt (dOp2 opIx (dVar 7) (dVar 15)) (dLit (.int 0))))
noncomputable def c__law_far_2 : M D :=
 (dOp2 opShl (dVar 16) (dVar 15))
noncomputable def c__law_far_3 : M D :=
 (dCall f__law_drift (aCons (dVar 1) (aCons (dVar 6) (aCons (dVar 2) (aCons (dVar 17) aNil)))))
noncomputable def c__law_far_4 : M D :=
 (dCall f__law_told (aCons (dVar 1) (aCons (dVar 6) (aCons (dVar 2) (aCons (dVar 17) aNil)))))
noncomputable def c__law_far_5 : M D :=
 (dCall fAbs (aCons (dVar 18) aNil))
noncomputable def t__law_far_0 : VL.Env → Fl :=
 (sSeq (sAsg (dComp (iSeq (dLst (aCons (dVar 9) (aCons (dVar 10) (aCons (dVar 11) (aCons (dLit (.int 0)) aNil)))))) (bName 17) qYes c__law_far_3 [17]) (bName 12))
 (sSeq (sIf (qB (dOp2 opNe (dVar 12) (dComp (iSeq (dLst (aCons (dVar 9) (aCons (dVar 10) (aCons (dVar 11) (aCons (dLit (.int 0)) aNil)))))) (bName 17) qYes c__law_far_4 [17])))
 (sRet (dLit (.bl false)))
 sNext)
 (sSeq (sAsg (dCall f_lower_seen (aCons (dVar 1) (aCons (dVar 6) (aCons (dVar 2) aNil)))) (bName 13))
 (sSeq (sAsg (dCall f_lower_planned (aCons (dVar 1) (aCons (dVar 3) aNil))) (bName 14))
 (sRet (dAnd (dOp2 opEq (dVar 13) (dCall fMax (aCons (dComp (iSeq (dVar 12)) (bName 18) qYes c__law_far_5 [18]) aNil))) (dAnd (dOp2 opEq (dVar 14) (dOp2 opDiv (dOp2 opMul (dOp2 opAdd (dVar 3) (dLit (.int 1))) (dVar 1)) (dLit (.int 2)))) (dOp2 opLe (dVar 13) (dVar 14)))))))))
noncomputable def t__law_far_1 : VL.Env → Fl :=
 (sSeq (sIf (qNot (qTru (dCall f__law_is_lowered (aCons (dVar 1) (aCons (dVar 6) (aCons (dVar 2) aNil))))))
 (sRet (dLit (.bl false)))
 sNext)
 (sSeq (sAsg (dCall f_row_slips (aCons (dVar 1) (aCons (dVar 6) (aCons (dVar 2) aNil)))) (bTup (bCons (bName 7) (bCons (bName 8) bNil))))
 (sSeq (sAsg (dCall fSum (aCons (dComp (iRange1 (dVar 3)) (bName 15) cq__law_far_0 c__law_far_0 [15]) aNil)) (bName 9))
 (sSeq (sAsg (dCall fSum (aCons (dComp (iRange1 (dVar 3)) (bName 15) cq__law_far_1 c__law_far_1 [15]) aNil)) (bName 10))
 (sSeq (sAsg (dCall fSum (aCons (dComp (iEnum (dCall f__law_values (aCons (dOp2 opDiv (dVar 0) (dLit (.int 16))) (aCons (dVar 3) (aCons (dLit (.int 0)) (aCons (dLit (.int 1)) aNil)))))) (bTup (bCons (bName 15) (bCons (bName 16) bNil))) qYes c__law_far_2 [15, 16]) aNil)) (bName 11))
 t__law_far_0)))))
noncomputable def b__law_far : VL.Env → Fl :=
 (sSeq (sIf (qB (dOp2 opEq (dOp2 opAnd (dCall fInt (aCons (dVar 0) aNil)) (dLit (.int 1))) (dLit (.int 0))))
 (sSeq (sAsg (dOp2 opIx (dCall f__law_big (aCons (dVar 0) (aCons (dLit (.int 1)) (aCons (dOp2 opPow (dLit (.int 2)) (dLit (.int 60))) (aCons (dOp2 opMul (dOp2 opPow (dLit (.int 2)) (dLit (.int 60))) (dOp2 opPow (dLit (.int 2)) (dLit (.int 60)))) aNil))))) (dLit (.int 0))) (bName 1))
 (sAsg (dOp2 opIx (dCall f__law_any (aCons (dOp2 opDiv (dVar 0) (dLit (.int 2))) (aCons (dLit (.int 1)) (aCons (dLit (.int 2)) (aCons (dVar 1) aNil))))) (dLit (.int 0))) (bName 2)))
 sNext)
 (sSeq (sAsg (dOp2 opIx (dLst (aCons (dLit (.int 60)) (aCons (dLit (.int 200)) (aCons (dLit (.int 1024)) aNil)))) (dOp2 opMod (dCall fInt (aCons (dOp2 opDiv (dVar 0) (dLit (.int 2))) aNil)) (dLit (.int 3)))) (bName 3))
 (sSeq (sAsg (dOp2 opSub (dLit (.int 0)) (dOp2 opDiv (dOp2 opSub (dVar 1) (dLit (.int 1))) (dLit (.int 2)))) (bName 4))
 (sSeq (sAsg (dCall f__law_any (aCons (dOp2 opDiv (dVar 0) (dLit (.int 8))) (aCons (dOp2 opAdd (dVar 3) (dLit (.int 1))) (aCons (dVar 4) (aCons (dOp2 opDiv (dVar 1) (dLit (.int 2))) aNil))))) (bName 5))
 (sSeq (sAsg (dTup (aCons (dSlL (dVar 5) (oSome (dLit (.int 1))) oNone) (aCons (dOp2 opIx (dVar 5) (dLit (.int 0))) aNil))) (bName 6))
 t__law_far_1)))))
noncomputable def f__law_far : List D → Res D := mkFn 3 19 b__law_far
/-! def law(script), line 187: slots 0 script, 1 cell, 2 modulus, 3 lower, 4 low, 5 high, 6 numbers, 7 last, 8 edge, 9 k, 10 row, 11 wrong -/
noncomputable def w_law_0 : VL.Env → Fl :=
 (sIf (qB (dOp2 opEq (dOp2 opAnd (dCall fInt (aCons (dOp2 opShr (dVar 8) (dVar 9)) aNil)) (dLit (.int 1))) (dLit (.int 1))))
 (sSet 6 (dVar 9) (dCall f__law_centred (aCons (dOp2 opDiv (dOp2 opMul (dOp2 opAdd (dOp2 opMul (dLit (.int 2)) (dOp2 opSub (dOp2 opMod (dCall fInt (aCons (dOp2 opDiv (dVar 8) (dLit (.int 64))) aNil)) (dLit (.int 9))) (dLit (.int 4)))) (dLit (.int 1))) (dVar 2)) (dOp2 opMul (dLit (.int 2)) (dVar 3))) (aCons (dVar 2) aNil))))
 sNext)
noncomputable def w_law_1 : VL.Env → Fl :=
 (sIf (qNot (qTru (dCall f__law_refuses (aCons (dVar 2) (aCons (dVar 10) (aCons (dVar 11) aNil))))))
 (sRet (dLit (.bl false)))
 sNext)
noncomputable def t_law_0 : VL.Env → Fl :=
 (sSeq (sIf (qAnd (qB (dOp2 opEq (dOp2 opMod (dCall fInt (aCons (dOp2 opDiv (dOp2 opDiv (dVar 1) (dOp2 opPow (dLit (.int 2)) (dLit (.int 64)))) (dLit (.int 4))) aNil)) (dLit (.int 8))) (dLit (.int 3)))) (qNot (qTru (dCall f__law_far (aCons (dCall f__law_wide (aCons (dCall f__law_cell (aCons (dVar 0) (aCons (dLit (.int 2)) aNil))) aNil)) (aCons (dVar 2) (aCons (dVar 3) aNil)))))))
 (sRet (dLit (.bl false)))
 sNext)
 (sRet (dCall f__law_reaches (aCons (dCall f__law_wide (aCons (dCall f__law_cell (aCons (dVar 0) (aCons (dLit (.int 5)) aNil))) aNil)) aNil))))
noncomputable def t_law_1 : VL.Env → Fl :=
 (sSeq (sAsg (dTup (aCons (dVar 6) (aCons (dVar 7) aNil))) (bName 10))
 (sSeq (sIf (qOr (qNot (qTru (dCall f__law_is_lowered (aCons (dVar 2) (aCons (dVar 10) (aCons (dVar 3) aNil)))))) (qNot (qTru (dCall f__law_asks (aCons (dVar 2) (aCons (dVar 10) (aCons (dVar 3) aNil)))))))
 (sRet (dLit (.bl false)))
 sNext)
 (sSeq (sFor (iSeq (dLst (aCons (dLit (.int 1)) (aCons (dLit (.int 0)) (aCons (dOp1 opNeg (dLit (.int 3))) (aCons (dOp2 opAdd (dVar 2) (dLit (.int 1))) (aCons (dOp2 opMul (dLit (.int 2)) (dVar 2)) aNil))))))) (bName 11) w_law_1)
 t_law_0)))
noncomputable def t_law_2 : VL.Env → Fl :=
 (sSeq (sAsg (dOp2 opDiv (dVar 2) (dLit (.int 2))) (bName 5))
 (sSeq (sAsg (dCall f__law_values (aCons (dCall f__law_cell (aCons (dVar 0) (aCons (dLit (.int 2)) aNil))) (aCons (dOp2 opAdd (dLit (.int 1)) (dOp2 opMod (dCall fInt (aCons (dOp2 opDiv (dVar 1) (dOp2 opPow (dLit (.int 2)) (dLit (.int 62)))) aNil)) (dLit (.int 5)))) (aCons (dVar 4) (aCons (dVar 5) aNil))))) (bName 6))
 (sSeq (sAsg (dOp2 opIx (dCall f__law_values (aCons (dCall f__law_cell (aCons (dVar 0) (aCons (dLit (.int 3)) aNil))) (aCons (dLit (.int 1)) (aCons (dVar 4) (aCons (dVar 5) aNil))))) (dLit (.int 0))) (bName 7))
 (sSeq (sAsg (dCall f__law_wide (aCons (dCall f__law_cell (aCons (dVar 0) (aCons (dLit (.int 4)) aNil))) aNil)) (bName 8))
 (sSeq (sFor (iRange1 (lenAt 6)) (bName 9) w_law_0)
 t_law_1)))))
noncomputable def t_law_3 : VL.Env → Fl :=
 (sSeq (sAsg (dOp2 opAdd (dLit (.int 2)) (dOp2 opMod (dCall fInt (aCons (dOp2 opDiv (dVar 1) (dLit (.int 16))) aNil)) (dOp2 opIx (dLst (aCons (dLit (.int 62)) (aCons (dLit (.int 1022)) (aCons (dOp2 opPow (dLit (.int 2)) (dLit (.int 30))) (aCons (dOp2 opSub (dOp2 opPow (dLit (.int 2)) (dLit (.int 61))) (dLit (.int 2))) aNil))))) (dOp2 opAnd (dCall fInt (aCons (dVar 1) aNil)) (dLit (.int 3)))))) (bName 2))
 (sSeq (sIf (qB (dOp2 opEq (dOp2 opAnd (dCall fInt (aCons (dOp2 opDiv (dVar 1) (dLit (.int 4))) aNil)) (dLit (.int 3))) (dLit (.int 0))))
 (sAsg (dOp2 opShl (dLit (.int 1)) (dOp2 opAdd (dLit (.int 3)) (dOp2 opMod (dCall fInt (aCons (dOp2 opDiv (dVar 1) (dLit (.int 16))) aNil)) (dLit (.int 50))))) (bName 2))
 sNext)
 (sSeq (sAsg (dOp2 opAdd (dLit (.int 2)) (dOp2 opMod (dCall fInt (aCons (dCall f__law_cell (aCons (dVar 0) (aCons (dLit (.int 1)) aNil))) aNil)) (dOp2 opSub (dVar 2) (dLit (.int 1))))) (bName 3))
 (sSeq (sIf (qB (dOp2 opEq (dOp2 opAnd (dCall fInt (aCons (dOp2 opDiv (dVar 1) (dOp2 opPow (dLit (.int 2)) (dLit (.int 60)))) aNil)) (dLit (.int 1))) (dLit (.int 0))))
 (sAsg (dOp2 opAdd (dLit (.int 2)) (dOp2 opMod (dCall fInt (aCons (dCall f__law_cell (aCons (dVar 0) (aCons (dLit (.int 1)) aNil))) aNil)) (dCall fMin2 (aCons (dOp2 opSub (dVar 2) (dLit (.int 1))) (aCons (dLit (.int 31)) aNil))))) (bName 3))
 sNext)
 (sSeq (sAsg (dOp2 opSub (dLit (.int 0)) (dOp2 opDiv (dOp2 opSub (dVar 2) (dLit (.int 1))) (dLit (.int 2)))) (bName 4))
 t_law_2)))))
noncomputable def b_law : VL.Env → Fl :=
 (sSeq (sAsg (dCall f__law_wide (aCons (dCall f__law_cell (aCons (dVar 0) (aCons (dLit (.int 0)) aNil))) aNil)) (bName 1))
 t_law_3)
noncomputable def f_law : List D → Res D := mkFn 1 12 b_law
end K39
namespace K39
open PySem VL
theorem check_modulus_ok {k : Int} (h : 1 ≤ k) : f_check_modulus [.int k] = .ok .non := by
  have h' : ¬ k < 1 := by omega
  simp [f_check_modulus, b_check_modulus, mk_fn, h']
theorem check_modulus_ex {k : Int} (h : k < 1) : f_check_modulus [.int k] = .exc .range := by
  simp [f_check_modulus, b_check_modulus, mk_fn, h]
theorem centred_ok {a k : Int} (h : 1 ≤ k) : f_centred [.int a, .int k] = .ok (.int (cen a k)) := by
  simp [f_centred, b_centred, mk_fn, check_modulus_ok h, ev_mod (show 0 < k by omega), ev_div (div2 _), cen]
theorem centred_ex {a k : Int} (h : k < 1) : f_centred [.int a, .int k] = .exc .range := by
  simp [f_centred, b_centred, mk_fn, check_modulus_ex h]
theorem round_ok {a k : Int} (h : 1 ≤ k) (ha : Sz 2000000 a) (hk : Sz 8000 k) : f_round_div [.int a, .int k] = .ok (.int ((2 * a + k) / (2 * k))) := by
  have e1 : mulOk 2 a = true := mul_ok two2 ha (by decide)
  have e2 : mulOk 2 k = true := mul_ok two2 hk (by decide)
  have e3 : divOk (2 * a + k) (2 * k) = true := div_ok (by omega) ((two2.mul hk).mono (by decide))
  simp [f_round_div, b_round_div, mk_fn, check_modulus_ok h, ev_mul, ev_div, e1, e2, e3]
theorem round_ex {a k : Int} (h : k < 1) : f_round_div [.int a, .int k] = .exc .range := by
  simp [f_round_div, b_round_div, mk_fn, check_modulus_ex h]
theorem cell_ok {ns : List Int} {k : Nat} : f__law_cell [.lst (ns.map D.int), .int k] = .ok (.int (cell ns k)) := by
  by_cases h : k < ns.length
  · have e : (ns.map D.int)[k]? = some (.int (cell ns k)) := by simp [h, cell]
    simp [f__law_cell, b__law_cell, mk_fn, h, ev_ixN e]
  · simp [f__law_cell, b__law_cell, mk_fn, h, cell, List.getElem?_eq_none (Nat.le_of_not_lt h)]
theorem is_integer_ok {x : Int} : f__law_is_integer [.int x] = .ok (.bl true) := by
  simp [f__law_is_integer, b__law_is_integer, mk_fn]
theorem wide_ok {c : Int} : ∃ v : Int, 0 ≤ v ∧ f__law_wide [.int c] = .ok (.int v) ∧ (∀ s, 200 ≤ s → Sz s c → Sz s v) := by
  have ab : (if c < 0 then -c else c) = absI c := rfl
  have n0 : 0 ≤ absI c := by unfold absI; split <;> omega
  have pw : opPow (.int 10) (.int 18) = .ok (.int 1000000000000000000) := ev_pow (by decide +kernel)
  by_cases h : 1000000000000000000 ≤ absI c
  · refine ⟨absI c, n0, ?_, fun s _ z => z.le (by unfold absI; split <;> omega)⟩
    simp [f__law_wide, b__law_wide, mk_fn, ab, pw, h]
  · have d5 : ∀ x : Int, divOk x 5 = true := fun x => lit_div (by decide) (by decide +kernel)
    have key : ∀ (st nu : Int) (w : Nat) (o4 : Option D), 0 ≤ st → st < 2147483648 → 0 ≤ nu → Sz (31 + 31 * w) nu → w ≤ 10 → ∃ st' nu', w__law_wide_0 [some (.int c), some (.int (absI c)), some (.int st), some (.int nu), o4] = .nx [some (.int c), some (.int (absI c)), some (.int st'), some (.int nu'), o4] ∧ 0 ≤ st' ∧ st' < 2147483648 ∧ 0 ≤ nu' ∧ Sz (31 + 31 * (w + 1)) nu' := by
      intro st nu w o4 h1 h2 h3 h4 hw
      have zs : Sz 31 st := by unfold Sz; omega
      have m1 : mulOk st 48271 = true := mul_ok (m := 31) zs (Sz.lit (by decide)) (by decide)
      have q1 := Int.emod_nonneg (st * 48271) (show (2147483647 : Int) ≠ 0 by decide)
      have q2 := Int.emod_lt_of_pos (st * 48271) (show (0 : Int) < 2147483647 by decide)
      have zs2 : Sz 31 (st * 48271 % 2147483647) := by unfold Sz; omega
      have m2 : mulOk nu 1073741824 = true := mul_ok (m := 31) h4 (Sz.lit (by decide)) (by omega)
      have m3 : mulOk (st * 48271 % 2147483647) 3 = true := mul_ok (m := 31) zs2 (Sz.lit (by decide)) (by decide)
      refine ⟨st * 48271 % 2147483647, nu * 1073741824 + (st * 48271 % 2147483647 / 5 + st * 48271 % 2147483647 * 3) % 1073741824, by simp [w__law_wide_0, ev_mul, m1, m2, m3, ev_mod, ev_div, d5], q1, by omega, ?_, ?_⟩
      · have := Int.emod_nonneg (st * 48271 % 2147483647 / 5 + st * 48271 % 2147483647 * 3) (show (1073741824 : Int) ≠ 0 by decide)
        have := Int.mul_nonneg h3 (show (0 : Int) ≤ 1073741824 by decide)
        omega
      · have a : Sz (31 + 31 * w + 30) (nu * 1073741824) := by
          have e : (1073741824 : Int) = 2 ^ 30 := by decide
          unfold Sz at h4 ⊢
          rw [Int.natAbs_mul, Nat.pow_add]
          exact Nat.mul_lt_mul_of_pos_right h4 (by decide)
        have b : Sz (31 + 31 * w + 30) ((st * 48271 % 2147483647 / 5 + st * 48271 % 2147483647 * 3) % 1073741824) := (Sz.mod (m := 31) (Sz.lit (by decide)) (by decide)).mono (by omega)
        exact (a.add b).mono (by omega)
    have r1 := Int.emod_nonneg (absI c) (show (2147483629 : Int) ≠ 0 by decide)
    have r2 := Int.emod_lt_of_pos (absI c) (show (0 : Int) < 2147483629 by decide)
    obtain ⟨s1, n1, e1, a1, b1, c1, z1⟩ := key (absI c % 2147483629 + 1) 0 0 (some (.int 0)) (by omega) (by omega) (by decide) (Sz.lit (by decide)) (by decide)
    obtain ⟨s2, n2, e2, a2, b2, c2, z2⟩ := key s1 n1 1 (some (.int 1)) a1 b1 c1 z1 (by decide)
    obtain ⟨s3, n3, e3, a3, b3, c3, z3⟩ := key s2 n2 2 (some (.int 2)) a2 b2 c2 z2 (by decide)
    obtain ⟨s4, n4, e4, a4, b4, c4, z4⟩ := key s3 n3 3 (some (.int 3)) a3 b3 c3 z3 (by decide)
    have rg : ∀ η : VL.Env, iRange1 (dLit (.int 4)) η = .ok [.int 0, .int 1, .int 2, .int 3] := fun η => iRange_ok (n := 4) rfl (by decide)
    refine ⟨n4, c4, ?_, fun s hs _ => z4.mono (by omega)⟩
    simp [f__law_wide, b__law_wide, mk_fn, ab, pw, h, ev_mod, rg, e1, e2, e3, e4]
theorem values_step {c n k : D} {lo hi : Int} (h : lo ≤ hi) (hz : Sz 9000 (hi - lo + 1)) (vs : List Int) (L st : Int) (g : Bool) (o9 : Option D) (hL : 0 ≤ L) (s0 : 0 ≤ st) (s1 : st < 2147483648) (hl : vs.length < 100000) :
    ∃ (x L' st' nu' : Int), lo ≤ x ∧ x ≤ hi ∧ 0 ≤ L' ∧ 0 ≤ st' ∧ st' < 2147483648 ∧ w__law_values_0 [some c, some n, some (.int lo), some (.int hi), some (.lst (vs.map D.int)), some (.int L), some (.bl g), some (.int st), some k, o9] = .nx [some c, some n, some (.int lo), some (.int hi), some (.lst ((vs ++ [x]).map D.int)), some (.int L'), some (.bl g), some (.int st'), some k, some (.int nu')] := by
  have zs : Sz 31 st := by unfold Sz; omega
  have m1 : mulOk st 48271 = true := mul_ok (m := 31) zs (Sz.lit (by decide)) (by decide)
  have q1 := Int.emod_nonneg (st * 48271) (show (2147483647 : Int) ≠ 0 by decide)
  have q2 := Int.emod_lt_of_pos (st * 48271) (show (0 : Int) < 2147483647 by decide)
  have zs2 : Sz 31 (st * 48271 % 2147483647) := by unfold Sz; omega
  have m2 : mulOk (st * 48271 % 2147483647) (st * 48271 % 2147483647) = true := mul_ok zs2 zs2 (by decide)
  have m3 : mulOk (st * 48271 % 2147483647 * (st * 48271 % 2147483647)) (st * 48271 % 2147483647) = true := mul_ok (zs2.mul zs2) zs2 (by decide)
  have d5 : ∀ x : Int, divOk x 5 = true := fun x => lit_div (by decide) (by decide +kernel)
  have hp : 0 < hi - lo + 1 := by omega
  have dh : ∀ x : Int, divOk x (hi - lo + 1) = true := fun x => div_ok hp hz
  have ln : (vs.map D.int).length < line := lt_line (by simp; omega)
  have ln' : vs.length < line := lt_line (by omega)
  have md : ∀ x : Int, lo ≤ lo + x % (hi - lo + 1) ∧ lo + x % (hi - lo + 1) ≤ hi := fun x => by
    have a := Int.emod_nonneg x (show hi - lo + 1 ≠ 0 by omega)
    have b := Int.emod_lt_of_pos x hp
    omega
  by_cases hg : g = true ∧ 0 < L
  · refine ⟨lo + L % (hi - lo + 1), L / (hi - lo + 1), st * 48271 % 2147483647, L, (md L).1, (md L).2, Int.ediv_nonneg hL (by omega), q1, by omega, ?_⟩
    simp [w__law_values_0, ev_mul, m1, m2, m3, ev_mod, ev_div, d5, dh, hp, hg.1, hg.2, ln']
  · refine ⟨lo + (st * 48271 % 2147483647 * (st * 48271 % 2147483647) * (st * 48271 % 2147483647) / 5) % (hi - lo + 1), L, st * 48271 % 2147483647, st * 48271 % 2147483647 * (st * 48271 % 2147483647) * (st * 48271 % 2147483647) / 5, (md _).1, (md _).2, hL, q1, by omega, ?_⟩
    cases g with
    | false => simp [w__law_values_0, ev_mul, m1, m2, m3, ev_mod, ev_div, d5, dh, hp, ln']
    | true =>
      have hn : ¬ 0 < L := fun z => hg ⟨rfl, z⟩
      simp [w__law_values_0, ev_mul, m1, m2, m3, ev_mod, ev_div, d5, dh, hp, hn, ln']
theorem values_loop {c n : D} {lo hi : Int} (h : lo ≤ hi) (hz : Sz 9000 (hi - lo + 1)) (g : Bool) : ∀ (xs : List D) (vs : List Int) (L st : Int) (o8 o9 : Option D), 0 ≤ L → 0 ≤ st → st < 2147483648 → vs.length + xs.length ≤ 100000 →
    ∃ (ws : List Int) (η4 : VL.Env), ws.length = xs.length ∧ (∀ x ∈ ws, lo ≤ x ∧ x ≤ hi) ∧ forGo (bName 8) w__law_values_0 xs [some c, some n, some (.int lo), some (.int hi), some (.lst (vs.map D.int)), some (.int L), some (.bl g), some (.int st), o8, o9] = .nx (some c :: some n :: some (.int lo) :: some (.int hi) :: some (.lst ((vs ++ ws).map D.int)) :: η4)
  | [], vs, L, st, o8, o9, _, _, _, _ => ⟨[], _, rfl, by simp, by rw [ev_forN, List.append_nil]⟩
  | x :: xs, vs, L, st, o8, o9, hL, s0, s1, hl => by
    obtain ⟨y, L', st', nu', y1, y2, a1, a2, a3, e1⟩ := values_step (c := c) (n := n) (k := x) h hz vs L st g o9 hL s0 s1 (by simp at hl; omega)
    obtain ⟨ws, η4, b1, b2, e2⟩ := values_loop (c := c) (n := n) h hz g xs (vs ++ [y]) L' st' (some x) (some (.int nu')) a1 a2 a3 (by simp at hl ⊢; omega)
    refine ⟨y :: ws, η4, by simp [b1], fun z hz => ?_, ?_⟩
    · rcases List.mem_cons.mp hz with rfl | hz
      · exact ⟨y1, y2⟩
      · exact b2 z hz
    · rw [ev_forC]
      simp only [ev_bnameS, ev_bname0, Option.map_some, e1]
      rw [e2]
      simp
theorem values_ok {c lo hi : Int} {n : Nat} (h : lo ≤ hi) (hz : Sz 9000 (hi - lo + 1)) (hn : n ≤ 100000) : ∃ vs : List Int, vs.length = n ∧ (∀ x ∈ vs, lo ≤ x ∧ x ≤ hi) ∧ f__law_values [.int c, .int n, .int lo, .int hi] = .ok (.lst (vs.map D.int)) := by
  have ab : (if c < 0 then -c else c) = absI c := rfl
  have n0 : 0 ≤ absI c := by unfold absI; split <;> omega
  have pw : opPow (.int 10) (.int 18) = .ok (.int 1000000000000000000) := ev_pow (by decide +kernel)
  have r1 := Int.emod_nonneg (absI c) (show (2147483629 : Int) ≠ 0 by decide)
  have r2 := Int.emod_lt_of_pos (absI c) (show (0 : Int) < 2147483629 by decide)
  obtain ⟨ws, η4, b1, b2, e⟩ := values_loop (c := .int c) (n := .int n) h hz (decide (1000000000000000000 ≤ absI c)) (rangeD 0 n) [] (absI c) (absI c % 2147483629 + 1) none none n0 (by omega) (by omega) (by simp [range_len]; exact hn)
  rw [range_len] at b1
  refine ⟨ws, b1, b2, ?_⟩
  have rg : iRange1 (dVar 1) [some (.int c), some (.int (n : Int)), some (.int lo), some (.int hi), some (.lst []), some (.int (absI c)), some (.bl (decide (1000000000000000000 ≤ absI c))), some (.int (absI c % 2147483629 + 1)), none, none] = .ok (rangeD 0 n) := iRange_ok rfl (by omega)
  simp only [List.map_nil, List.nil_append] at e
  simp [f__law_values, b__law_values, mk_fn, ab, pw, ev_mod, rg, e]
theorem law_centred_ok {v m : Int} (h : 1 ≤ m) (hz : Sz 90000000 m) : f__law_centred [.int v, .int m] = .ok (.int (if 2 * (v % m) > m then v % m - m else v % m)) := by
  have m1 : mulOk 2 (v % m) = true := mul_ok two2 (hz.mod (by omega)) (by decide)
  have p : 0 < m := by omega
  by_cases g : m < 2 * (v % m)
  · simp [f__law_centred, b__law_centred, mk_fn, ev_mod, p, ev_mul, m1, g]
  · simp [f__law_centred, b__law_centred, mk_fn, ev_mod, p, ev_mul, m1, g]
theorem law_centred_is {v m : Int} (h : 1 ≤ m) (hz : Sz 90000000 m) : f__law_centred [.int v, .int m] = .ok (.int (cen v m)) := by
  rw [law_centred_ok h hz, cen_mod h]
/-! rows: a list of ints and a last one -/
def rowD (ns : List Int) (z : Int) : D := .tup [.lst (ns.map D.int), .int z]
theorem row_0 {ns : List Int} {z : Int} : opIx (rowD ns z) (.int 0) = .ok (.lst (ns.map D.int)) := ev_ixT0
theorem row_1 {ns : List Int} {z : Int} : opIx (rowD ns z) (.int 1) = .ok (.int z) := ev_ixT1
theorem row_nb {ns : List Int} {z : Int} : (rowD ns z).nb = true := by
  show (D.nbs (ns.map D.int) && (D.nb (.int z) && true)) = true
  rw [nbs_ints]; rfl
theorem row_dep {ns : List Int} {z : Int} : (rowD ns z).dep ≤ 64 := by
  show max (D.deps (ns.map D.int) + 1) (max 0 0) + 1 ≤ 64
  rw [deps_ints]; decide
theorem row_eq {ns : List Int} {z : Int} : opEq (rowD ns z) (rowD ns z) = .ok (.bl true) := eq_self row_nb row_dep
theorem centred_row_ok {m z : Int} {ns : List Int} (hm : 1 ≤ m) (hl : ns.length ≤ 100000) : f_centred_row [.int m, .lst (ns.map D.int), .int z] = .ok (rowD (ns.map fun x => cen x m) (cen z m)) := by
  have c := comp_ints (it := iSeq (dVar 1)) (t := bName 3) (e := c_centred_row_0) (own := [3]) (η := [some (.int m), some (.lst (ns.map D.int)), some (.int z), none]) (xs := ns) (fun x => cen x m) rfl (fun x hx => ⟨_, rfl, by
    show c_centred_row_0 [some (.int m), some (.lst (ns.map D.int)), some (.int z), some (.int x)] = _
    simp [c_centred_row_0, centred_ok hm]⟩) hl
  unfold rowD
  generalize (ns.map fun x => cen x m).map D.int = L2 at *
  generalize ns.map D.int = L at *
  simp [f_centred_row, b_centred_row, mk_fn, c, centred_ok hm]
theorem check_lower_ok {m l : Int} (h1 : 2 ≤ l) (h2 : l ≤ m) : f_check_lower [.int m, .int l] = .ok .non := by
  have a : ¬ l < 2 := by omega
  have b : ¬ m < l := by omega
  simp [f_check_lower, b_check_lower, mk_fn, a, b]
theorem check_lower_ex {m l : Int} (h : l < 2 ∨ m < l) : f_check_lower [.int m, .int l] = .exc .range := by
  by_cases a : l < 2
  · simp [f_check_lower, b_check_lower, mk_fn, a]
  · have b := h.resolve_left a
    simp [f_check_lower, b_check_lower, mk_fn, a, b]
theorem row_lower_ok {m l z : Int} {ns : List Int} (h1 : 2 ≤ l) (h2 : l ≤ m) (zm : Sz 1000 m) (zn : ∀ x ∈ ns, Sz 1000 x) (zz : Sz 1000 z) (hl : ns.length ≤ 100000) : f_row_lower [.int m, rowD ns z, .int l] = .ok (rowD (ns.map fun x => cen (rnd (l * x) m) l) (cen (rnd (l * z) m) l)) := by
  have zl : Sz 1000 l := zm.le (by omega)
  have hm : 1 ≤ m := by omega
  have c := comp_ints (it := iSeq (dOp2 opIx (dVar 1) (dLit (.int 0)))) (t := bName 4) (e := c_row_lower_0) (own := [4]) (η := [some (.int m), some (rowD ns z), some (.int l), none, none]) (xs := ns) (fun x => rnd (l * x) m) (by simp [row_0]) (fun x hx => ⟨_, rfl, by
    show c_row_lower_0 [some (.int m), some (rowD ns z), some (.int l), none, some (.int x)] = _
    have m1 : mulOk l x = true := mul_ok zl (zn x hx) (by decide)
    simp [c_row_lower_0, ev_mul, m1, round_ok hm ((zl.mul (zn x hx)).mono (by decide)) (zm.mono (by decide)), rnd]⟩) hl
  have m2 : mulOk l z = true := mul_ok zl zz (by decide)
  have r : f_round_div [.int (l * z), .int m] = .ok (.int (rnd (l * z) m)) := round_ok hm ((zl.mul zz).mono (by decide)) (zm.mono (by decide))
  have cr := centred_row_ok (m := l) (z := rnd (l * z) m) (ns := ns.map fun x => rnd (l * x) m) (by omega) (by simpa using hl)
  rw [show (ns.map fun x => rnd (l * x) m).map (fun x => cen x l) = ns.map fun x => cen (rnd (l * x) m) l from by rw [List.map_map]; rfl] at cr
  have i1 := row_1 (ns := ns) (z := z)
  generalize rowD ns z = R at *
  generalize (ns.map fun x => rnd (l * x) m).map D.int = L at *
  simp [f_row_lower, b_row_lower, mk_fn, check_lower_ok h1 h2, c, i1, ev_mul, m2, r, cr]
theorem row_lower_ex {m l : Int} {r : D} (h : l < 2 ∨ m < l) : f_row_lower [.int m, r, .int l] = .exc .range := by
  simp [f_row_lower, b_row_lower, mk_fn, check_lower_ex h]
def slp (m l x : Int) : Int := l * x - m * rnd (l * x) m
theorem rnd_sz {v m : Int} {s : Nat} (hm : 1 ≤ m) (zv : Sz s v) (zm : Sz s m) : Sz (s + 3) (rnd v m) := by
  unfold rnd
  exact ((((two2.mul zv).mono (by omega : 2 + s ≤ s + 2)).add (zm.mono (by omega))).div (by omega))
theorem slip_ok {m l x : Int} (h1 : 2 ≤ l) (h2 : l ≤ m) (zm : Sz 1000 m) (zx : Sz 1000 x) : f_slip [.int m, .int x, .int l] = .ok (.int (slp m l x)) := by
  have zl : Sz 1000 l := zm.le (by omega)
  have hm : 1 ≤ m := by omega
  have m1 : mulOk l x = true := mul_ok zl zx (by decide)
  have r : f_round_div [.int (l * x), .int m] = .ok (.int (rnd (l * x) m)) := round_ok hm ((zl.mul zx).mono (by decide)) (zm.mono (by decide))
  have zr := rnd_sz (s := 2000) hm (zl.mul zx) (zm.mono (by decide))
  have m2 : mulOk m (rnd (l * x) m) = true := mul_ok zm zr (by decide)
  simp [f_slip, b_slip, mk_fn, ev_mul, m1, r, m2, slp]
theorem row_slips_ok {m l z : Int} {ns : List Int} (h1 : 2 ≤ l) (h2 : l ≤ m) (zm : Sz 1000 m) (zn : ∀ x ∈ ns, Sz 1000 x) (zz : Sz 1000 z) (hl : ns.length ≤ 100000) : f_row_slips [.int m, rowD ns z, .int l] = .ok (rowD (ns.map (slp m l)) (slp m l z)) := by
  have c := comp_ints (it := iSeq (dOp2 opIx (dVar 1) (dLit (.int 0)))) (t := bName 3) (e := c_row_slips_0) (own := [3]) (η := [some (.int m), some (rowD ns z), some (.int l), none]) (xs := ns) (slp m l) (by simp [row_0]) (fun x hx => ⟨_, rfl, by
    show c_row_slips_0 [some (.int m), some (rowD ns z), some (.int l), some (.int x)] = _
    simp [c_row_slips_0, slip_ok h1 h2 zm (zn x hx)]⟩) hl
  have i1 := row_1 (ns := ns) (z := z)
  have sz := slip_ok h1 h2 zm zz
  unfold rowD at *
  generalize (ns.map (slp m l)).map D.int = L at *
  generalize D.tup [D.lst (ns.map D.int), D.int z] = R at *
  simp [f_row_slips, b_row_slips, mk_fn, check_lower_ok h1 h2, c, i1, sz]
theorem row_slips_ex {m l : Int} {r : D} (h : l < 2 ∨ m < l) : f_row_slips [.int m, r, .int l] = .exc .range := by
  simp [f_row_slips, b_row_slips, mk_fn, check_lower_ex h]
/-- twice a slip is at most the modulus -/
theorem slp_le {m l x : Int} (hm : 1 ≤ m) : -m ≤ 2 * slp m l x ∧ 2 * slp m l x ≤ m := by
  unfold slp rnd
  generalize l * x = v
  have e1 := Int.emod_nonneg (2 * v + m) (show 2 * m ≠ 0 by omega)
  have e2 := Int.emod_lt_of_pos (2 * v + m) (show 0 < 2 * m by omega)
  have e3 := Int.mul_ediv_add_emod (2 * v + m) (2 * m)
  rw [Int.mul_assoc] at e3
  omega
def rch (s : Int) (xs : List Int) : Int := if -s - sumP neg xs > s + sumP pos xs then -s - sumP neg xs else s + sumP pos xs
theorem reach_ok {s : Int} {xs : List Int} (hl : xs.length ≤ 100000) : f_reach [.int s, .lst (xs.map D.int)] = .ok (.int (rch s xs)) := by
  have a := comp_filt (it := iSeq (dVar 1)) (t := bName 4) (q := cq_reach_0) (e := dVar 4) (own := [4]) (η := [some (.int s), some (.lst (xs.map D.int)), none, none, none]) (xs := xs) pos id rfl (fun x hx => ⟨_, rfl, by
    show cq_reach_0 [some (.int s), some (.lst (xs.map D.int)), none, none, some (.int x)] = _
    simp [cq_reach_0, pos], fun _ => rfl⟩) hl
  have b := fun (o : Option D) => comp_filt (it := iSeq (dVar 1)) (t := bName 4) (q := cq_reach_1) (e := dVar 4) (own := [4]) (η := [some (.int s), some (.lst (xs.map D.int)), o, none, none]) (xs := xs) neg id rfl (fun x hx => ⟨_, rfl, by
    show cq_reach_1 [some (.int s), some (.lst (xs.map D.int)), o, none, some (.int x)] = _
    simp [cq_reach_1, neg], fun _ => rfl⟩) hl
  rw [List.map_id] at a
  simp only [List.map_id] at b
  have sa := sum_ints (xs.filter pos)
  have sb := sum_ints (xs.filter neg)
  unfold rch sumP
  generalize (xs.filter pos).map D.int = L1 at *
  generalize (xs.filter neg).map D.int = L2 at *
  generalize xs.map D.int = L at *
  simp [f_reach, b_reach, mk_fn, a, sa, b, sb]
/-! the greatest of all subsets' sums -/
def gmax (g a : Int) : Int := if a > g then a else g
def grt (f : Int → Int) : List Int → Int → Int
  | [], g => g
  | n :: ns, g => grt f ns (gmax g (absI (f n)))
theorem grt_ge (f : Int → Int) : ∀ (ns : List Int) (g : Int), g ≤ grt f ns g ∧ ∀ n ∈ ns, absI (f n) ≤ grt f ns g
  | [], g => ⟨Int.le_refl _, fun n h => by cases h⟩
  | n :: ns, g => by
    have ih := grt_ge f ns (gmax g (absI (f n)))
    have a : g ≤ gmax g (absI (f n)) ∧ absI (f n) ≤ gmax g (absI (f n)) := by unfold gmax; split <;> omega
    refine ⟨Int.le_trans a.1 ih.1, fun k hk => ?_⟩
    rcases List.mem_cons.mp hk with rfl | hk
    · exact Int.le_trans a.2 ih.1
    · exact ih.2 k hk
theorem grt_le (f : Int → Int) (B : Int) : ∀ (ns : List Int) (g : Int), g ≤ B → (∀ n ∈ ns, absI (f n) ≤ B) → grt f ns g ≤ B
  | [], g, h, _ => h
  | n :: ns, g, h, hs => by
    refine grt_le f B ns _ ?_ fun k hk => hs k (List.mem_cons_of_mem _ hk)
    have := hs n (List.mem_cons_self ..)
    unfold gmax; split <;> omega
theorem sumP_sgn : ∀ xs : List Int, sumP neg xs ≤ 0 ∧ 0 ≤ sumP pos xs := fun xs => by
  have z := sel_rg 0 xs
  rw [sel_zero] at z
  exact z
theorem rch_bound {s t : Int} {xs : List Int} (h : sumP neg xs ≤ t ∧ t ≤ sumP pos xs) : absI (s + t) ≤ rch s xs := by
  unfold absI rch; split <;> split <;> omega
theorem rch_le {s G : Int} {xs : List Int} (h1 : absI (s + sumP pos xs) ≤ G) (h2 : absI (s + sumP neg xs) ≤ G) : rch s xs ≤ G := by
  unfold absI at h1 h2; unfold rch
  split at h1 <;> split at h2 <;> split <;> omega
theorem rch_nn {s : Int} {xs : List Int} : 0 ≤ rch s xs := by
  have := sumP_sgn xs
  unfold rch; split <;> omega
def nums (n : Nat) : List Int := (List.range n).map fun (k : Nat) => (k : Int)
theorem nums_mem {n : Nat} {k : Int} : k ∈ nums n ↔ 0 ≤ k ∧ k < n := by
  unfold nums
  rw [List.mem_map]
  constructor
  · rintro ⟨j, hj, rfl⟩
    have := List.mem_range.mp hj
    omega
  · intro h
    exact ⟨k.toNat, List.mem_range.mpr (by omega), by omega⟩
theorem nums_D {n : Nat} : rangeD 0 n = (nums n).map D.int := by
  unfold rangeD nums
  rw [List.map_map]
  exact List.map_congr_left fun k _ => by simp
theorem natpow2 (n : Nat) : (((2 : Nat) ^ n : Nat) : Int) = (2 : Int) ^ n := by rw [Int.natCast_pow]; rfl
theorem grt_rch {s g : Int} {xs : List Int} (h0 : g ≤ rch s xs) : grt (fun n => s + sel n xs) (nums (2 ^ xs.length)) g = rch s xs := by
  have a := grt_ge (fun n => s + sel n xs) (nums (2 ^ xs.length)) g
  have b := grt_le (fun n => s + sel n xs) (rch s xs) (nums (2 ^ xs.length)) g h0 fun n _ => rch_bound (sel_rg n xs)
  have p := msk_rg pos xs
  have q := msk_rg neg xs
  have a1 := a.2 (msk pos xs) (nums_mem.mpr (by rw [natpow2]; exact p))
  have a2 := a.2 (msk neg xs) (nums_mem.mpr (by rw [natpow2]; exact q))
  simp only [sel_msk] at a1 a2
  have := rch_le (s := s) (xs := xs) a1 a2
  omega
theorem lower_seen_ok {m l z : Int} {ns : List Int} (h1 : 2 ≤ l) (h2 : l ≤ m) (zm : Sz 1000 m) (zn : ∀ x ∈ ns, Sz 1000 x) (zz : Sz 1000 z) (hl : ns.length ≤ 100000) : f_lower_seen [.int m, rowD ns z, .int l] = .ok (.int (rch (-(slp m l z)) (ns.map (slp m l)))) := by
  have a := row_slips_ok h1 h2 zm zn zz hl
  have b := reach_ok (s := -(slp m l z)) (xs := ns.map (slp m l)) (by simpa using hl)
  unfold rowD at *
  generalize (ns.map (slp m l)).map D.int = L at *
  generalize D.tup [D.lst (ns.map D.int), D.int z] = R at *
  simp [f_lower_seen, b_lower_seen, mk_fn, a, b]
theorem lower_planned_ok {m : Int} {k : Nat} (zm : Sz 1000 m) (hk : k ≤ 100000) : f_lower_planned [.int m, .int k] = .ok (.int (((k : Int) + 1) * m / 2)) := by
  have zk : Sz 20 ((k : Int) + 1) := by unfold Sz; omega
  have m1 : mulOk ((k : Int) + 1) m = true := mul_ok zk zm (by decide)
  simp [f_lower_planned, b_lower_planned, mk_fn, ev_mul, m1, ev_div, div2]
theorem law_round_ok {v d : Int} (hd : 1 ≤ d) (zv : Sz 5000 v) (zd : Sz 5000 d) : f__law_round [.int v, .int d] = .ok (.int (rnd v d)) := by
  have m1 : mulOk 2 v = true := mul_ok two2 zv (by decide)
  have m2 : mulOk 2 d = true := mul_ok two2 zd (by decide)
  have e : divOk (2 * v + d) (2 * d) = true := div_ok (by omega) ((two2.mul zd).mono (by decide))
  simp [f__law_round, b__law_round, mk_fn, ev_mul, m1, m2, ev_div, e, rnd]
theorem is_row_ok {xs : List Int} (hl : xs.length ≤ 100000) : f__law_is_row [.lst (xs.map D.int), .lst (xs.map D.int)] = .ok (.bl true) := by
  obtain ⟨η', e, o, rfl⟩ := forGo_keep (t := bName 2) (m := w__law_is_row_0) (fun z => ∃ o : Option D, z = [some (.lst (xs.map D.int)), some (.lst (xs.map D.int)), o]) (rangeD 0 xs.length) (fun x hx z hz => by
    obtain ⟨o, rfl⟩ := hz
    unfold rangeD at hx
    obtain ⟨k, hk, rfl⟩ := List.mem_map.mp hx
    have hk2 := List.mem_range.mp hk
    rw [Int.zero_add]
    have g := ints_at (ts := xs) (k := k) (List.getElem?_eq_getElem hk2)
    refine ⟨[some (.lst (xs.map D.int)), some (.lst (xs.map D.int)), some (.int (k : Int))], [some (.lst (xs.map D.int)), some (.lst (xs.map D.int)), some (.int (k : Int))], by simp, .inl ?_, _, rfl⟩
    generalize xs.map D.int = L at *
    simp [w__law_is_row_0, g, is_integer_ok]) [some (.lst (xs.map D.int)), some (.lst (xs.map D.int)), none] ⟨none, rfl⟩
  have ll : (xs.map D.int).length = xs.length := by simp
  have rg : iRange1 (dCall fLen (aCons (dVar 1) aNil)) [some (.lst (xs.map D.int)), some (.lst (xs.map D.int)), none] = .ok (rangeD 0 xs.length) := iRange_ok (by simp) (by omega)
  generalize xs.map D.int = L at *
  simp [f__law_is_row, b__law_is_row, mk_fn, rg, e]
/-! refusals -/
theorem er1 : Er.own .range = true := rfl
theorem er2 : Er.sub .range .purse = true := rfl
theorem er3 : Er.sub .range .malformed = false := rfl
theorem er7 : Er.sub .range .range = true := rfl
theorem lw1 : Er.own .malformed = true := rfl
theorem lw2 : Er.own .purse = true := rfl
theorem refuses_ok {m l : Int} {r : D} (h : l < 2 ∨ m < l) : f__law_refuses [.int m, r, .int l] = .ok (.bl true) := by
  have rg : ∀ η : VL.Env, iRange1 (dLit (.int 2)) η = .ok [.int 0, .int 1] := fun η => iRange_ok (n := 2) rfl (by decide)
  have a : ∀ o4 o5 : Option D, w__law_refuses_0 [some (.int m), some r, some (.int l), some (.int 0), o4, o5] = .nx [some (.int m), some r, some (.int l), some (.int 0), some (.bl true), none] := fun o4 o5 => by
    simp [w__law_refuses_0, sTryAs, row_lower_ex h, er1, er2, er3, er7, lw1, lw2, goneFl]
  have b : ∀ o4 o5 : Option D, w__law_refuses_0 [some (.int m), some r, some (.int l), some (.int 1), o4, o5] = .nx [some (.int m), some r, some (.int l), some (.int 1), some (.bl true), none] := fun o4 o5 => by
    simp [w__law_refuses_0, sTryAs, row_slips_ex h, er1, er2, er3, er7, lw1, lw2, goneFl]
  simp [f__law_refuses, b__law_refuses, mk_fn, rg, a, b]
/-! what a law asks of a lowered row -/
theorem cen_fit {v l : Int} (h : 1 ≤ l) (zl : Sz 90000000 l) : f__law_centred [.int v, .int l] = .ok (.int (cen v l)) := law_centred_is h zl
theorem is_lowered_ok {m l z : Int} {ns : List Int} (h1 : 2 ≤ l) (h2 : l ≤ m) (zm : Sz 1000 m) (zn : ∀ x ∈ ns, Sz 1000 x) (zz : Sz 1000 z) (hl : ns.length ≤ 100000) : f__law_is_lowered [.int m, rowD ns z, .int l] = .ok (.bl true) := by
  have zl : Sz 1000 l := zm.le (by omega)
  have hm : 1 ≤ m := by omega
  have lr : ∀ x, Sz 1000 x → f__law_round [.int (l * x), .int m] = .ok (.int (rnd (l * x) m)) := fun x zx => law_round_ok hm ((zl.mul zx).mono (by decide)) (zm.mono (by decide))
  have lc : ∀ v, f__law_centred [.int v, .int l] = .ok (.int (cen v l)) := fun v => cen_fit (by omega) (zl.mono (by decide))
  have ml : ∀ x, Sz 1000 x → mulOk l x = true := fun x zx => mul_ok zl zx (by decide)
  have mr : ∀ x, Sz 1000 x → mulOk m (rnd (l * x) m) = true := fun x zx => mul_ok zm (rnd_sz (s := 2000) hm (zl.mul zx) (zm.mono (by decide))) (by decide)
  have a := row_lower_ok h1 h2 zm zn zz hl
  have b := row_slips_ok h1 h2 zm zn zz hl
  have c0 := fun o4 => comp_ints (it := iSeq (dOp2 opIx (dVar 1) (dLit (.int 0)))) (t := bName 9) (e := c__law_is_lowered_0) (own := [9]) (η := [some (.int m), some (rowD ns z), some (.int l), some (rowD ns z), o4, none, none, none, none, none]) (xs := ns) (fun x => cen (rnd (l * x) m) l) (by simp [row_0]) (fun x hx => ⟨_, rfl, by
    show c__law_is_lowered_0 [some (.int m), some (rowD ns z), some (.int l), some (rowD ns z), o4, none, none, none, none, some (.int x)] = _
    simp [c__law_is_lowered_0, ev_mul, ml x (zn x hx), lr x (zn x hx), lc]⟩) hl
  have c1 := fun o4 o5 => comp_ints (it := iSeq (dOp2 opIx (dVar 1) (dLit (.int 0)))) (t := bName 9) (e := c__law_is_lowered_1) (own := [9]) (η := [some (.int m), some (rowD ns z), some (.int l), some (rowD ns z), o4, o5, none, none, none, none]) (xs := ns) (slp m l) (by simp [row_0]) (fun x hx => ⟨_, rfl, by
    show c__law_is_lowered_1 [some (.int m), some (rowD ns z), some (.int l), some (rowD ns z), o4, o5, none, none, none, some (.int x)] = _
    simp [c__law_is_lowered_1, ev_mul, ml x (zn x hx), lr x (zn x hx), mr x (zn x hx), slp]⟩) hl
  have i0 := row_0 (ns := ns) (z := z)
  have i1 := row_1 (ns := ns) (z := z)
  have e := row_eq (ns := ns) (z := z)
  have r0 := is_row_ok (xs := ns.map fun x => cen (rnd (l * x) m) l) (by simpa using hl)
  have r1 := is_row_ok (xs := ns.map (slp m l)) (by simpa using hl)
  have tp : dTup (aCons (dCall fList (aCons (dOp2 opIx (dVar 1) (dLit (.int 0))) aNil)) (aCons (dOp2 opIx (dVar 1) (dLit (.int 1))) aNil)) [some (.int m), some (rowD ns z), some (.int l), none, none, none, none, none, none, none] = .ok (rowD ns z) := by
    simp [i0, i1, rowD]
  generalize rowD ns z = R at *
  unfold rowD at a b
  generalize (ns.map fun x => cen (rnd (l * x) m) l).map D.int = L0 at *
  generalize (ns.map (slp m l)).map D.int = L1 at *
  have sl : l * z - m * rnd (l * z) m = slp m l z := rfl
  have t0 : ∀ o4 o5, t__law_is_lowered_0 [some (.int m), some R, some (.int l), some R, o4, o5, none, none, none, none] = .rt (.bl true) := fun o4 o5 => by
    simp [t__law_is_lowered_0, c1, i1, ev_mul, ml z zz, lr z zz, mr z zz, sl, b, r1, is_integer_ok, e]
  simp [f__law_is_lowered, b__law_is_lowered, mk_fn, ↓tp, a, c0, r0, i1, is_integer_ok, ev_mul, ml z zz, lr z zz, lc, t0]
/-! drifts -/
theorem sel_sz {s : Nat} : ∀ (n : Int) (xs : List Int), (∀ x ∈ xs, Sz s x) → Sz (s + xs.length) (sel n xs)
  | _, [], _ => Sz.mono (n := 0) (show (0 : Int).natAbs < 2 ^ 0 by decide) (by omega)
  | n, x :: xs, h => by
    have ih := sel_sz (n / 2) xs fun y hy => h y (List.mem_cons_of_mem _ hy)
    have hx := h x (List.mem_cons_self ..)
    have z0 : Sz (s + xs.length) (if n % 2 = 1 then x else 0) := by
      split
      · exact hx.mono (by omega)
      · exact Sz.mono (n := 0) (show (0 : Int).natAbs < 2 ^ 0 by decide) (by omega)
    simp only [sel, List.length_cons]
    exact (z0.add ih).mono (by omega)
theorem sel_slp (m l : Int) : ∀ (n : Int) (xs : List Int), sel n (xs.map (slp m l)) = l * sel n xs - m * sel n (xs.map fun x => rnd (l * x) m)
  | _, [] => by simp [sel]
  | n, x :: xs => by
    simp only [List.map_cons, sel, sel_slp m l (n / 2) xs, Int.mul_add]
    split
    · unfold slp; omega
    · simp
theorem lp_drift {m l n : Int} {ns : List Int} {R : D} (hR : opIx R (.int 0) = .ok (.lst (ns.map D.int))) (h1 : 2 ≤ l) (h2 : l ≤ m) (zm : Sz 1000 m) (zn : ∀ x ∈ ns, Sz 1000 x) (hn : 0 ≤ n) : ∀ (rest pre : List Int) (zz yy : Int) (o6 : Option D), ns = pre ++ rest →
    ∃ o6', forGo (bName 6) w__law_drift_0 (rangeD pre.length rest.length) [some (.int m), some R, some (.int l), some (.int n), some (.int zz), some (.int yy), o6] = .nx [some (.int m), some R, some (.int l), some (.int n), some (.int (zz - sel (n / 2 ^ pre.length) rest)), some (.int (yy - sel (n / 2 ^ pre.length) (rest.map fun x => rnd (l * x) m))), o6']
  | [], pre, zz, yy, o6, _ => ⟨o6, by simp [rangeD_zero, sel]⟩
  | x :: rest, pre, zz, yy, o6, he => by
    have zl : Sz 1000 l := zm.le (by omega)
    have zx : Sz 1000 x := zn x (by rw [he]; simp)
    have ml : mulOk l x = true := mul_ok zl zx (by decide)
    have lr : f__law_round [.int (l * x), .int m] = .ok (.int (rnd (l * x) m)) := law_round_ok (by omega) ((zl.mul zx).mono (by decide)) (zm.mono (by decide))
    have g : opIx (.lst (ns.map D.int)) (.int (pre.length : Nat)) = .ok (.int x) := ints_at (by rw [he]; simp)
    have nn := div_nn hn pre.length
    have b1 := bit_one nn
    have sh := ev_bit (k := pre.length) hn
    have e' := lp_drift hR h1 h2 zm zn hn rest (pre ++ [x])
    have el : (pre ++ [x]).length = pre.length + 1 := by simp
    rw [el] at e'
    have en : n / 2 ^ (pre.length + 1) = n / 2 ^ pre.length / 2 := div_pow_succ n pre.length
    rw [en] at e'
    have es : ((pre.length + 1 : Nat) : Int) = (pre.length : Int) + 1 := by omega
    rw [es] at e'
    generalize pre.length = k at *
    generalize n / 2 ^ k = v at *
    by_cases hb : v % 2 = 1
    · obtain ⟨o6', e⟩ := e' (zz - x) (yy - rnd (l * x) m) (some (.int (k : Int))) (by rw [he]; simp)
      refine ⟨o6', ?_⟩
      have e2 : w__law_drift_0 [some (.int m), some R, some (.int l), some (.int n), some (.int zz), some (.int yy), some (.int (k : Int))] = .nx [some (.int m), some R, some (.int l), some (.int n), some (.int (zz - x)), some (.int (yy - rnd (l * x) m)), some (.int (k : Int))] := by
        simp [w__law_drift_0, sh, ev_bitAnd, b1, hb, hR, g, ev_mul, ml, lr]
      rw [List.length_cons, rangeD_succ, ev_forC]
      simp only [ev_bnameS, ev_bname0, Option.map_some, e2]
      rw [e]
      simp only [List.map_cons, sel, hb, if_true]
      rw [Int.sub_sub zz, Int.sub_sub yy]
    · obtain ⟨o6', e⟩ := e' zz yy (some (.int (k : Int))) (by rw [he]; simp)
      refine ⟨o6', ?_⟩
      have e2 : w__law_drift_0 [some (.int m), some R, some (.int l), some (.int n), some (.int zz), some (.int yy), some (.int (k : Int))] = .nx [some (.int m), some R, some (.int l), some (.int n), some (.int zz), some (.int yy), some (.int (k : Int))] := by
        simp [w__law_drift_0, sh, ev_bitAnd, b1, hb]
      rw [List.length_cons, rangeD_succ, ev_forC]
      simp only [ev_bnameS, ev_bname0, Option.map_some, e2]
      rw [e]
      simp only [List.map_cons, sel, hb, if_false, Int.zero_add]
def drf (m l z : Int) (ns : List Int) (n : Int) : Int := -(slp m l z) + sel n (ns.map (slp m l))
theorem drift_ok {m l z n : Int} {ns : List Int} (h1 : 2 ≤ l) (h2 : l ≤ m) (zm : Sz 1000 m) (zn : ∀ x ∈ ns, Sz 1000 x) (zz : Sz 1000 z) (hl : ns.length ≤ 100000) (hn : 0 ≤ n) : f__law_drift [.int m, rowD ns z, .int l, .int n] = .ok (.int (drf m l z ns n)) := by
  have zl : Sz 1000 l := zm.le (by omega)
  have hm : 1 ≤ m := by omega
  have ml : mulOk l z = true := mul_ok zl zz (by decide)
  have lr : f__law_round [.int (l * z), .int m] = .ok (.int (rnd (l * z) m)) := law_round_ok hm ((zl.mul zz).mono (by decide)) (zm.mono (by decide))
  have i0 := row_0 (ns := ns) (z := z)
  have i1 := row_1 (ns := ns) (z := z)
  obtain ⟨o6, e⟩ := lp_drift (R := rowD ns z) i0 h1 h2 zm zn hn ns [] z (rnd (l * z) m) none rfl
  rw [show n / 2 ^ ([] : List Int).length = n by simp] at e
  have e' : forGo (bName 6) w__law_drift_0 (rangeD 0 ns.length) [some (.int m), some (rowD ns z), some (.int l), some (.int n), some (.int z), some (.int (rnd (l * z) m)), none] = _ := e
  have s1 := sel_sz (s := 1000) n ns zn
  have s2 := sel_sz (s := 2003) n (ns.map fun x => rnd (l * x) m) (fun y hy => by
    obtain ⟨x, hx, rfl⟩ := List.mem_map.mp hy
    exact rnd_sz (s := 2000) hm (zl.mul (zn x hx)) (zm.mono (by decide)))
  rw [List.length_map] at s2
  have r1 := rnd_sz (s := 2000) hm (zl.mul zz) (zm.mono (by decide))
  have m1 : mulOk m (rnd (l * z) m - sel n (ns.map fun x => rnd (l * x) m)) = true := mul_ok zm ((r1.mono (by omega)).sub s2) (by omega)
  have m2 : mulOk l (z - sel n ns) = true := mul_ok zl ((zz.mono (by omega)).sub s1) (by omega)
  have rg : iRange1 (dCall fLen (aCons (dOp2 opIx (dVar 1) (dLit (.int 0))) aNil)) [some (.int m), some (rowD ns z), some (.int l), some (.int n), some (.int z), some (.int (rnd (l * z) m)), none] = .ok (rangeD 0 ns.length) := iRange_ok (by simp [i0]) (by omega)
  have fin : m * (rnd (l * z) m - sel n (ns.map fun x => rnd (l * x) m)) - l * (z - sel n ns) = drf m l z ns n := by
    unfold drf slp
    rw [show (fun x => l * x - m * rnd (l * x) m) = slp m l from rfl, sel_slp, Int.mul_sub, Int.mul_sub]
    omega
  generalize rowD ns z = R at *
  simp [f__law_drift, b__law_drift, mk_fn, i1, ev_mul, ml, lr, rg, e', m1, m2, fin]
theorem lp_told {n : Int} {ss : List Int} (hn : 0 ≤ n) (d0 d1 d2 d5 : D) : ∀ (rest pre : List Int) (tt : Int) (o7 : Option D), ss = pre ++ rest →
    ∃ o7', forGo (bName 7) w__law_told_0 (rangeD pre.length rest.length) [some d0, some d1, some d2, some (.int n), some (.lst (ss.map D.int)), some d5, some (.int tt), o7] = .nx [some d0, some d1, some d2, some (.int n), some (.lst (ss.map D.int)), some d5, some (.int (tt + sel (n / 2 ^ pre.length) rest)), o7']
  | [], pre, tt, o7, _ => ⟨o7, by simp [rangeD_zero, sel]⟩
  | x :: rest, pre, tt, o7, he => by
    have g : opIx (.lst (ss.map D.int)) (.int (pre.length : Nat)) = .ok (.int x) := ints_at (by rw [he]; simp)
    have nn := div_nn hn pre.length
    have b1 := bit_one nn
    have sh := ev_bit (k := pre.length) hn
    have e' := lp_told (ss := ss) hn d0 d1 d2 d5 rest (pre ++ [x])
    have el : (pre ++ [x]).length = pre.length + 1 := by simp
    rw [el] at e'
    have en : n / 2 ^ (pre.length + 1) = n / 2 ^ pre.length / 2 := div_pow_succ n pre.length
    rw [en] at e'
    have es : ((pre.length + 1 : Nat) : Int) = (pre.length : Int) + 1 := by omega
    rw [es] at e'
    generalize pre.length = k at *
    generalize n / 2 ^ k = v at *
    generalize ss.map D.int = L at *
    by_cases hb : v % 2 = 1
    · obtain ⟨o7', e⟩ := e' (tt + x) (some (.int (k : Int))) (by rw [he]; simp)
      refine ⟨o7', ?_⟩
      have e2 : w__law_told_0 [some d0, some d1, some d2, some (.int n), some (.lst L), some d5, some (.int tt), some (.int (k : Int))] = .nx [some d0, some d1, some d2, some (.int n), some (.lst L), some d5, some (.int (tt + x)), some (.int (k : Int))] := by
        simp [w__law_told_0, sh, ev_bitAnd, b1, hb, g]
      rw [List.length_cons, rangeD_succ, ev_forC]
      simp only [ev_bnameS, ev_bname0, Option.map_some, e2]
      rw [e]
      simp only [sel, hb, if_true, Int.add_assoc]
    · obtain ⟨o7', e⟩ := e' tt (some (.int (k : Int))) (by rw [he]; simp)
      refine ⟨o7', ?_⟩
      have e2 : w__law_told_0 [some d0, some d1, some d2, some (.int n), some (.lst L), some d5, some (.int tt), some (.int (k : Int))] = .nx [some d0, some d1, some d2, some (.int n), some (.lst L), some d5, some (.int tt), some (.int (k : Int))] := by
        simp [w__law_told_0, sh, ev_bitAnd, b1, hb]
      rw [List.length_cons, rangeD_succ, ev_forC]
      simp only [ev_bnameS, ev_bname0, Option.map_some, e2]
      rw [e]
      simp only [sel, hb, if_false, Int.zero_add]
theorem told_ok {m l z n : Int} {ns : List Int} (h1 : 2 ≤ l) (h2 : l ≤ m) (zm : Sz 1000 m) (zn : ∀ x ∈ ns, Sz 1000 x) (zz : Sz 1000 z) (hl : ns.length ≤ 100000) (hn : 0 ≤ n) : f__law_told [.int m, rowD ns z, .int l, .int n] = .ok (.int (drf m l z ns n)) := by
  have b := row_slips_ok h1 h2 zm zn zz hl
  obtain ⟨o7, e⟩ := lp_told (ss := ns.map (slp m l)) hn (.int m) (rowD ns z) (.int l) (.int (slp m l z)) (ns.map (slp m l)) [] (0 - slp m l z) none rfl
  rw [show n / 2 ^ ([] : List Int).length = n by simp] at e
  have ll : ((ns.map (slp m l)).map D.int).length = (ns.map (slp m l)).length := by simp
  have hl2 : (ns.map (slp m l)).length ≤ 100000 := by simpa using hl
  have e' : forGo (bName 7) w__law_told_0 (rangeD 0 (ns.map (slp m l)).length) _ = _ := e
  have rg : iRange1 (dCall fLen (aCons (dVar 4) aNil)) [some (.int m), some (rowD ns z), some (.int l), some (.int n), some (.lst ((ns.map (slp m l)).map D.int)), some (.int (slp m l z)), some (.int (0 - slp m l z)), none] = .ok (rangeD 0 (ns.map (slp m l)).length) := iRange_ok (by simp) (by omega)
  have fin : 0 - slp m l z + sel n (ns.map (slp m l)) = drf m l z ns n := by unfold drf; omega
  rw [fin] at e'
  generalize hR : rowD ns z = R at *
  unfold rowD at b
  generalize (ns.map (slp m l)).map D.int = L at *
  simp at e' rg
  simp [f__law_told, b__law_told, mk_fn, b, rg, e']
theorem absD {x : Int} : fAbs [.int x] = .ok (.int (absI x)) := nrf rfl
theorem maxD {g a : Int} : fMax2 [.int g, .int a] = .ok (.int (gmax g a)) := nrf rfl
theorem lp_asks {m l z : Int} {ns : List Int} (h1 : 2 ≤ l) (h2 : l ≤ m) (zm : Sz 1000 m) (zn : ∀ x ∈ ns, Sz 1000 x) (zz : Sz 1000 z) (hl : ns.length ≤ 100000) : ∀ (ks : List Int) (g : Int) (o4 o5 : Option D), (∀ k ∈ ks, 0 ≤ k) →
    ∃ o4' o5', forGo (bName 4) w__law_asks_0 (ks.map D.int) [some (.int m), some (rowD ns z), some (.int l), some (.int g), o4, o5, none, none] = .nx [some (.int m), some (rowD ns z), some (.int l), some (.int (grt (drf m l z ns) ks g)), o4', o5', none, none]
  | [], g, o4, o5, _ => ⟨o4, o5, rfl⟩
  | k :: ks, g, o4, o5, h => by
    have hk := h k (List.mem_cons_self ..)
    have a := drift_ok h1 h2 zm zn zz hl hk
    have b := told_ok h1 h2 zm zn zz hl hk
    obtain ⟨p4, p5, e⟩ := lp_asks h1 h2 zm zn zz hl ks (gmax g (absI (drf m l z ns k))) (some (.int k)) (some (.int (drf m l z ns k))) fun y hy => h y (List.mem_cons_of_mem _ hy)
    refine ⟨p4, p5, ?_⟩
    have e2 : w__law_asks_0 [some (.int m), some (rowD ns z), some (.int l), some (.int g), some (.int k), o5, none, none] = .nx [some (.int m), some (rowD ns z), some (.int l), some (.int (gmax g (absI (drf m l z ns k)))), some (.int k), some (.int (drf m l z ns k)), none, none] := by
      generalize rowD ns z = R at *
      simp [w__law_asks_0, a, b, maxD, absD, -ev_max2, -ev_abs]
    rw [List.map_cons, ev_forC]
    simp only [ev_bnameS, ev_bname0, Option.map_some, e2]
    rw [e]
    simp only [grt]
theorem seen_planned {m l z : Int} {ns : List Int} (hm : 1 ≤ m) : rch (-(slp m l z)) (ns.map (slp m l)) ≤ ((ns.length : Int) + 1) * m / 2 := by
  have key : ∀ xs : List Int, 2 * sumP pos (xs.map (slp m l)) ≤ (xs.length : Int) * m ∧ -((xs.length : Int) * m) ≤ 2 * sumP neg (xs.map (slp m l)) := by
    intro xs
    induction xs with
    | nil => simp [sumP]
    | cons x xs ih =>
      have s := slp_le (m := m) (l := l) (x := x) hm
      unfold sumP at *
      have e : (((x :: xs).length : Nat) : Int) * m = (xs.length : Int) * m + m := by rw [List.length_cons, Int.natCast_succ, Int.add_mul, Int.one_mul]
      rw [e]
      simp only [List.map_cons, List.filter_cons]
      generalize (xs.length : Int) * m = q at *
      split <;> split <;> (try simp only [List.sum_cons]) <;> omega
  have k := key ns
  have s := slp_le (m := m) (l := l) (x := z) hm
  have e : ((ns.length : Int) + 1) * m = (ns.length : Int) * m + m := by rw [Int.add_mul, Int.one_mul]
  rw [e]
  unfold rch
  split <;> omega
theorem asks_ok {m l z : Int} {ns : List Int} (h1 : 2 ≤ l) (h2 : l ≤ m) (zm : Sz 1000 m) (zn : ∀ x ∈ ns, Sz 1000 x) (zz : Sz 1000 z) (hl : ns.length ≤ 20) : f__law_asks [.int m, rowD ns z, .int l] = .ok (.bl true) := by
  have hm : 1 ≤ m := by omega
  have hl2 : ns.length ≤ 100000 := by omega
  obtain ⟨o4, o5, e⟩ := lp_asks h1 h2 zm zn zz hl2 (nums (2 ^ ns.length)) 0 none none fun k hk => (nums_mem.mp hk).1
  have gr : grt (drf m l z ns) (nums (2 ^ ns.length)) 0 = rch (-(slp m l z)) (ns.map (slp m l)) := by
    have := grt_rch (s := -(slp m l z)) (g := 0) (xs := ns.map (slp m l)) rch_nn
    rw [List.length_map] at this
    exact this
  rw [gr] at e
  have p2 : (2 : Nat) ^ ns.length ≤ 2 ^ 20 := Nat.pow_le_pow_right (by decide) hl
  have p3 : (2 : Nat) ^ ns.length ≤ 1000000000 := Nat.le_trans p2 (by decide)
  have sk : shlOk 1 (ns.length : Nat) = true := by
    unfold shlOk
    rw [show (1 : Int).natAbs.log2 = 0 from rfl, Int.toNat_natCast]
    simp; omega
  have i0 := row_0 (ns := ns) (z := z)
  have ll : ((ns.map D.int).length) = ns.length := by simp
  have sh : opShl (.int 1) (.int (ns.length : Nat)) = .ok (.int ((2 ^ ns.length : Nat) : Int)) := by rw [ev_shl sk, Int.toNat_natCast, Int.one_mul, natpow2]
  have rg : iRange1 (dOp2 opShl (dLit (.int 1)) (dCall fLen (aCons (dOp2 opIx (dVar 1) (dLit (.int 0))) aNil))) [some (.int m), some (rowD ns z), some (.int l), some (.int 0), none, none, none, none] = .ok (rangeD 0 (2 ^ ns.length)) := iRange_ok (by simp only [ev_op2, ev_lit, ev_bind, ev_call, ev_cons, ev_varS, ev_var0, i0, ev_nil, ev_len, ll, sh]) p3
  have a := lower_seen_ok h1 h2 zm zn zz hl2
  have b := lower_planned_ok (k := ns.length) zm hl2
  have sp := seen_planned (m := m) (l := l) (z := z) (ns := ns) hm
  have zk : Sz 20 ((ns.length : Int) + 1) := by unfold Sz; omega
  have m1 : mulOk ((ns.length : Int) + 1) m = true := mul_ok zk zm (by decide)
  generalize rch (-(slp m l z)) (ns.map (slp m l)) = rc at *
  rw [nums_D] at rg
  generalize (nums (2 ^ ns.length)).map D.int = NL at *
  generalize hq : ((ns.length : Int) + 1) * m / 2 = pl at *
  have dv : opDiv (.int (((ns.length : Int) + 1) * m)) (.int 2) = .ok (.int pl) := by rw [ev_div (div2 _), hq]
  generalize ns.map D.int = L at *
  generalize rowD ns z = R at *
  simp [f__law_asks, b__law_asks, mk_fn, rg, e, a, i0, ll, b, is_integer_ok, ev_mul, m1, dv, sp]
/-! reaches -/
theorem lp_rc0 {n : Int} {ss : List Int} (hn : 0 ≤ n) (d0 d2 d3 : D) (η : VL.Env) : ∀ (rest pre : List Int) (tt : Int) (o6 : Option D), ss = pre ++ rest →
    ∃ o6', forGo (bName 6) w__law_reaches_0 (rangeD pre.length rest.length) (some d0 :: some (.lst (ss.map D.int)) :: some d2 :: some d3 :: some (.int n) :: some (.int tt) :: o6 :: η) = .nx (some d0 :: some (.lst (ss.map D.int)) :: some d2 :: some d3 :: some (.int n) :: some (.int (tt + sel (n / 2 ^ pre.length) rest)) :: o6' :: η)
  | [], pre, tt, o6, _ => ⟨o6, by simp [rangeD_zero, sel]⟩
  | x :: rest, pre, tt, o6, he => by
    have g : opIx (.lst (ss.map D.int)) (.int (pre.length : Nat)) = .ok (.int x) := ints_at (by rw [he]; simp)
    have nn := div_nn hn pre.length
    have b1 := bit_one nn
    have sh := ev_bit (k := pre.length) hn
    have e' := lp_rc0 (ss := ss) hn d0 d2 d3 η rest (pre ++ [x])
    have el : (pre ++ [x]).length = pre.length + 1 := by simp
    rw [el] at e'
    have en : n / 2 ^ (pre.length + 1) = n / 2 ^ pre.length / 2 := div_pow_succ n pre.length
    rw [en] at e'
    have es : ((pre.length + 1 : Nat) : Int) = (pre.length : Int) + 1 := by omega
    rw [es] at e'
    generalize pre.length = k at *
    generalize n / 2 ^ k = v at *
    generalize ss.map D.int = L at *
    by_cases hb : v % 2 = 1
    · obtain ⟨o6', e⟩ := e' (tt + x) (some (.int (k : Int))) (by rw [he]; simp)
      refine ⟨o6', ?_⟩
      have e2 : w__law_reaches_0 (some d0 :: some (.lst L) :: some d2 :: some d3 :: some (.int n) :: some (.int tt) :: some (.int (k : Int)) :: η) = .nx (some d0 :: some (.lst L) :: some d2 :: some d3 :: some (.int n) :: some (.int (tt + x)) :: some (.int (k : Int)) :: η) := by
        simp [w__law_reaches_0, sh, ev_bitAnd, b1, hb, g]
      rw [List.length_cons, rangeD_succ, ev_forC]
      simp only [ev_bnameS, ev_bname0, Option.map_some, e2]
      rw [e]
      simp only [sel, hb, if_true, Int.add_assoc]
    · obtain ⟨o6', e⟩ := e' tt (some (.int (k : Int))) (by rw [he]; simp)
      refine ⟨o6', ?_⟩
      have e2 : w__law_reaches_0 (some d0 :: some (.lst L) :: some d2 :: some d3 :: some (.int n) :: some (.int tt) :: some (.int (k : Int)) :: η) = .nx (some d0 :: some (.lst L) :: some d2 :: some d3 :: some (.int n) :: some (.int tt) :: some (.int (k : Int)) :: η) := by
        simp [w__law_reaches_0, sh, ev_bitAnd, b1, hb]
      rw [List.length_cons, rangeD_succ, ev_forC]
      simp only [ev_bnameS, ev_bname0, Option.map_some, e2]
      rw [e]
      simp only [sel, hb, if_false, Int.zero_add]
theorem lp_rc1 {s : Int} {ss : List Int} (hl : ss.length ≤ 100) (d0 : D) (η : VL.Env) : ∀ (ks : List Int) (g : Int) (o4 o5 o6 : Option D), (∀ k ∈ ks, 0 ≤ k) →
    ∃ o4' o5' o6', forGo (bName 4) w__law_reaches_1 (ks.map D.int) (some d0 :: some (.lst (ss.map D.int)) :: some (.int s) :: some (.int g) :: o4 :: o5 :: o6 :: η) = .nx (some d0 :: some (.lst (ss.map D.int)) :: some (.int s) :: some (.int (grt (fun n => s + sel n ss) ks g)) :: o4' :: o5' :: o6' :: η)
  | [], g, o4, o5, o6, _ => ⟨o4, o5, o6, rfl⟩
  | k :: ks, g, o4, o5, o6, h => by
    have hk := h k (List.mem_cons_self ..)
    obtain ⟨q6, e0⟩ := lp_rc0 (ss := ss) hk d0 (.int s) (.int g) η ss [] s o6 rfl
    rw [show k / 2 ^ ([] : List Int).length = k by simp] at e0
    rw [show ((([] : List Int).length : Nat) : Int) = 0 from rfl] at e0
    obtain ⟨p4, p5, p6, e⟩ := lp_rc1 (s := s) (ss := ss) hl d0 η ks (gmax g (absI (s + sel k ss))) (some (.int k)) (some (.int (s + sel k ss))) q6 fun y hy => h y (List.mem_cons_of_mem _ hy)
    refine ⟨p4, p5, p6, ?_⟩
    have rg : iRange1 (dCall fLen (aCons (dVar 1) aNil)) (some d0 :: some (.lst (ss.map D.int)) :: some (.int s) :: some (.int g) :: some (.int k) :: some (.int s) :: o6 :: η) = .ok (rangeD 0 ss.length) := iRange_ok (by simp) (by omega)
    have e2 : w__law_reaches_1 (some d0 :: some (.lst (ss.map D.int)) :: some (.int s) :: some (.int g) :: some (.int k) :: o5 :: o6 :: η) = .nx (some d0 :: some (.lst (ss.map D.int)) :: some (.int s) :: some (.int (gmax g (absI (s + sel k ss)))) :: some (.int k) :: some (.int (s + sel k ss)) :: q6 :: η) := by
      generalize ss.map D.int = L at *
      simp [w__law_reaches_1, rg, e0, maxD, absD, -ev_max2, -ev_abs]
    rw [List.map_cons, forGo_nx (by simp) e2, e]
    simp only [grt]
theorem reaches_ok {c : Int} : f__law_reaches [.int c] = .ok (.bl true) := by
  have d64 : ∀ x : Int, divOk x 64 = true := fun x => lit_div (by decide) (by decide +kernel)
  have d8 : ∀ x : Int, divOk x 8 = true := fun x => lit_div (by decide) (by decide +kernel)
  have m7 : opMod (.int c) (.int 7) = .ok (.int (c % 7)) := ev_mod (by decide)
  have m101 : opMod (.int (c / 8)) (.int 101) = .ok (.int (c / 8 % 101)) := ev_mod (by decide)
  have q0 := Int.emod_nonneg c (show (7 : Int) ≠ 0 by decide)
  have q1 := Int.emod_lt_of_pos c (show (0 : Int) < 7 by decide)
  obtain ⟨k, hk, hk2⟩ : ∃ k : Nat, c % 7 = k ∧ k ≤ 7 := ⟨(c % 7).toNat, by omega, by omega⟩
  obtain ⟨ss, v1, v2, v3⟩ := values_ok (c := c / 64) (lo := -50) (hi := 50) (n := k) (by decide) (Sz.mono (n := 20) (Sz.lit (by decide)) (by decide)) (by omega)
  generalize hs : c / 8 % 101 - 50 = s
  have hl : ss.length ≤ 100 := by omega
  obtain ⟨o4, o5, o6, e⟩ := lp_rc1 (s := s) hl (.int c) [none, none] (nums (2 ^ ss.length)) (absI s) none none none fun k hk => (nums_mem.mp hk).1
  have ab0 : absI s ≤ rch s ss := by
    have := rch_bound (s := s) (t := 0) (xs := ss) (sumP_sgn ss)
    rw [Int.add_zero] at this
    exact this
  rw [grt_rch ab0] at e
  have p2 : (2 : Nat) ^ ss.length ≤ 2 ^ 7 := Nat.pow_le_pow_right (by decide) (by omega)
  have p3 : (2 : Nat) ^ ss.length ≤ 1000000000 := Nat.le_trans p2 (by decide)
  have ll : ((ss.map D.int).length) = ss.length := by simp
  have sk : shlOk 1 (ss.length : Nat) = true := by
    unfold shlOk
    rw [show (1 : Int).natAbs.log2 = 0 from rfl, Int.toNat_natCast]
    simp; omega
  have sh : opShl (.int 1) (.int (ss.length : Nat)) = .ok (.int ((2 ^ ss.length : Nat) : Int)) := by rw [ev_shl sk, Int.toNat_natCast, Int.one_mul, natpow2]
  have rg : iRange1 (dOp2 opShl (dLit (.int 1)) (dCall fLen (aCons (dVar 1) aNil))) [some (.int c), some (.lst (ss.map D.int)), some (.int s), some (.int (absI s)), none, none, none, none, none] = .ok (rangeD 0 (2 ^ ss.length)) := iRange_ok (by simp only [ev_op2, ev_lit, ev_bind, ev_call, ev_cons, ev_varS, ev_var0, ev_nil, ev_len, ll, sh]) p3
  have r := reach_ok (s := s) (xs := ss) (by omega)
  have eq : opEq (.lst (ss.map D.int)) (.lst (ss.map D.int)) = .ok (.bl true) := by rw [eq_ints]; simp
  rw [nums_D] at rg
  generalize (nums (2 ^ ss.length)).map D.int = NL at *
  generalize ss.map D.int = L at *
  have v3' : f__law_values [.int (c / 64), .int (c % 7), .int (-50), .int 50] = .ok (.lst L) := by rw [hk]; exact v3
  simp [f__law_reaches, b__law_reaches, mk_fn, ev_div, d64, d8, m7, m101, v3', hs, absD, -ev_abs, rg, e, r, is_integer_ok, eq]
/-! great values -/
theorem pow60 : opPow (.int 2) (.int 60) = .ok (.int 1152921504606846976) := ev_pow (by decide +kernel)
theorem pow64 : opPow (.int 2) (.int 64) = .ok (.int 18446744073709551616) := ev_pow (by decide +kernel)
theorem lp_big0 (d0 d1 d2 d3 d4 d5 d6 : D) : ∀ (ps : List Int) (v : Int) (s : Nat) (o8 : Option D), Sz s v → (∀ x ∈ ps, Sz s x) → 60 ≤ s → s + 62 * ps.length ≤ 1000000 →
    ∃ v' o8', Sz (s + 62 * ps.length) v' ∧ forGo (bName 8) w__law_big_0 (ps.map D.int) [some d0, some d1, some d2, some d3, some d4, some d5, some d6, some (.int v), o8] = .nx [some d0, some d1, some d2, some d3, some d4, some d5, some d6, some (.int v'), o8']
  | [], v, s, o8, h, _, _, _ => ⟨v, o8, h.mono (by omega), rfl⟩
  | x :: ps, v, s, o8, h, hx, h6, hl => by
    have z60 : Sz 61 (1152921504606846976 : Int) := Sz.lit (by decide)
    have m1 : mulOk v 1152921504606846976 = true := mul_ok h z60 (by simp at hl; omega)
    obtain ⟨v', o8', a, e⟩ := lp_big0 d0 d1 d2 d3 d4 d5 d6 ps (v * 1152921504606846976 + x) (s + 62) (some (.int x)) (((h.mul z60).add ((hx x (List.mem_cons_self ..)).mono (by omega))).mono (by omega)) (fun y hy => (hx y (List.mem_cons_of_mem _ hy)).mono (by omega)) (by omega) (by simp at hl; omega)
    refine ⟨v', o8', a.mono (by simp; omega), ?_⟩
    have e2 : w__law_big_0 [some d0, some d1, some d2, some d3, some d4, some d5, some d6, some (.int v), some (.int x)] = .nx [some d0, some d1, some d2, some d3, some d4, some d5, some d6, some (.int (v * 1152921504606846976 + x)), some (.int x)] := by
      simp [w__law_big_0, pow60, ev_mul, m1]
    rw [List.map_cons, forGo_nx (by simp) e2, e]
theorem big_step {lo hi : Int} {ps vs : List Int} (k : Nat) (h : lo ≤ hi) (hp : ∀ x ∈ ps, Sz 60 x) (hpl : ps.length ≤ 10000) (hv : vs.length ≤ 2000) (d0 d1 : D) (o7 o8 : Option D) (hk : k ≤ 2000) :
    ∃ (x : Int) (o7' o8' : Option D), lo ≤ x ∧ x ≤ hi ∧ w__law_big_1 [some d0, some d1, some (.int lo), some (.int hi), some (.lst (ps.map D.int)), some (.lst (vs.map D.int)), some (.int (k : Int)), o7, o8] = .nx [some d0, some d1, some (.int lo), some (.int hi), some (.lst (ps.map D.int)), some (.lst ((vs ++ [x]).map D.int)), some (.int (k : Int)), o7', o8'] := by
  obtain ⟨ys, y1, y2⟩ := cut_map (f := D.int) (xs := ps) (lo := some (8 * (k : Int))) (hi := some (8 * (k : Int) + 8))
  have yl : ys.length ≤ 10000 := by
    have : (ys.map D.int).length ≤ (ps.map D.int).length := by rw [← y1]; unfold cutD; simp; omega
    simp at this; omega
  obtain ⟨v', o8', _, e⟩ := lp_big0 d0 d1 (.int lo) (.int hi) (.lst (ps.map D.int)) (.lst (vs.map D.int)) (.int (k : Int)) ys 0 60 o8 (Sz.lit (by decide)) (fun x hx => hp x (y2 x hx)) (by decide) (by omega)
  have hpos : 0 < hi - lo + 1 := by omega
  have a := Int.emod_nonneg v' (show hi - lo + 1 ≠ 0 by omega)
  have b := Int.emod_lt_of_pos v' hpos
  have m8 : mulOk 8 (k : Int) = true := mul_ok (n := 4) (m := 20) (Sz.lit (by decide)) (by unfold Sz; omega) (by decide)
  refine ⟨lo + v' % (hi - lo + 1), some (.int v'), o8', by omega, by omega, ?_⟩
  have vl : (vs.map D.int).length < line := lt_line (by simp; omega)
  have em : (vs ++ [lo + v' % (hi - lo + 1)]).map D.int = vs.map D.int ++ [.int (lo + v' % (hi - lo + 1))] := by simp
  rw [em]
  generalize vs.map D.int = V at *
  generalize ps.map D.int = P at *
  simp [w__law_big_1, ev_mul, m8, y1, e, ev_mod hpos, vl]
theorem big_loop {lo hi : Int} {ps : List Int} (h : lo ≤ hi) (hp : ∀ x ∈ ps, Sz 60 x) (hpl : ps.length ≤ 10000) (d0 d1 : D) : ∀ (m j : Nat) (vs : List Int) (o6 o7 o8 : Option D), j + m ≤ 1500 → vs.length = j →
    ∃ (ws : List Int) (o6' o7' o8' : Option D), ws.length = m ∧ (∀ x ∈ ws, lo ≤ x ∧ x ≤ hi) ∧ forGo (bName 6) w__law_big_1 (rangeD j m) [some d0, some d1, some (.int lo), some (.int hi), some (.lst (ps.map D.int)), some (.lst (vs.map D.int)), o6, o7, o8] = .nx [some d0, some d1, some (.int lo), some (.int hi), some (.lst (ps.map D.int)), some (.lst ((vs ++ ws).map D.int)), o6', o7', o8']
  | 0, j, vs, o6, o7, o8, _, _ => ⟨[], o6, o7, o8, rfl, by simp, by rw [rangeD_zero, ev_forN, List.append_nil]⟩
  | m + 1, j, vs, o6, o7, o8, hj, hv => by
    obtain ⟨x, p7, p8, x1, x2, e2⟩ := big_step (lo := lo) (hi := hi) (ps := ps) (vs := vs) j h hp hpl (by omega) d0 d1 o7 o8 (by omega)
    obtain ⟨ws, q6, q7, q8, w1, w2, e⟩ := big_loop h hp hpl d0 d1 m (j + 1) (vs ++ [x]) (some (.int (j : Int))) p7 p8 (by omega) (by simp; omega)
    have es : ((j + 1 : Nat) : Int) = (j : Int) + 1 := by omega
    rw [es] at e
    refine ⟨x :: ws, q6, q7, q8, by simp [w1], fun y hy => ?_, ?_⟩
    · rcases List.mem_cons.mp hy with rfl | hy
      · exact ⟨x1, x2⟩
      · exact w2 y hy
    · rw [rangeD_succ, forGo_nx (by simp) e2, e]
      simp
theorem big_ok {c lo hi : Int} {n : Nat} (h : lo ≤ hi) (hn : n ≤ 1200) : ∃ vs : List Int, vs.length = n ∧ (∀ x ∈ vs, lo ≤ x ∧ x ≤ hi) ∧ f__law_big [.int c, .int n, .int lo, .int hi] = .ok (.lst (vs.map D.int)) := by
  obtain ⟨ps, v1, v2, v3⟩ := values_ok (c := c) (lo := 0) (hi := 1152921504606846976 - 1) (n := 8 * n) (by decide) (Sz.mono (n := 70) (Sz.lit (by decide)) (by decide)) (by omega)
  have hp : ∀ x ∈ ps, Sz 60 x := fun x hx => by
    have := v2 x hx
    have p : (2 : Nat) ^ 60 = 1152921504606846976 := by decide
    unfold Sz
    rw [p]
    omega
  obtain ⟨ws, q6, q7, q8, w1, w2, e⟩ := big_loop (lo := lo) (hi := hi) h hp (by omega) (.int c) (.int n) n 0 [] none none none (by omega) rfl
  refine ⟨ws, w1, w2, ?_⟩
  have m8 : mulOk 8 (n : Int) = true := mul_ok (n := 4) (m := 20) (Sz.lit (by decide)) (by unfold Sz; omega) (by decide)
  have v3' : f__law_values [.int c, .int (8 * (n : Int)), .int 0, .int (1152921504606846976 - 1)] = .ok (.lst (ps.map D.int)) := by
    have e8 : ((8 * n : Nat) : Int) = 8 * (n : Int) := by omega
    rw [← e8]; exact v3
  have e' : forGo (bName 6) w__law_big_1 (rangeD 0 n) _ = _ := e
  have rg : iRange1 (dVar 1) [some (.int c), some (.int (n : Int)), some (.int lo), some (.int hi), some (.lst (ps.map D.int)), some (.lst []), none, none, none] = .ok (rangeD 0 n) := iRange_ok rfl (by omega)
  simp only [List.map_nil, List.nil_append] at e'
  have sb : opSub (.int 1152921504606846976) (.int 1) = .ok (.int (1152921504606846976 - 1)) := rfl
  generalize (1152921504606846976 - 1 : Int) = q60 at *
  generalize ps.map D.int = P at *
  simp [f__law_big, b__law_big, mk_fn, ev_mul, m8, pow60, ↓sb, v3', rg, e']
theorem any_ok {c lo hi : Int} {n : Nat} (h : lo ≤ hi) (zz : Sz 9000 (hi - lo + 1)) (hn : n ≤ 1200) : ∃ vs : List Int, vs.length = n ∧ (∀ x ∈ vs, lo ≤ x ∧ x ≤ hi) ∧ f__law_any [.int c, .int n, .int lo, .int hi] = .ok (.lst (vs.map D.int)) := by
  by_cases g : hi - lo < 18446744073709551616
  · obtain ⟨vs, v1, v2, v3⟩ := values_ok (c := c) (n := n) h zz (by omega)
    refine ⟨vs, v1, v2, ?_⟩
    generalize vs.map D.int = V at *
    simp [f__law_any, b__law_any, mk_fn, pow64, g, v3]
  · obtain ⟨vs, v1, v2, v3⟩ := big_ok (c := c) (n := n) h hn
    refine ⟨vs, v1, v2, ?_⟩
    generalize vs.map D.int = V at *
    simp [f__law_any, b__law_any, mk_fn, pow64, g, v3]
/-! masks -/
theorem nums_succ {n : Nat} : nums (n + 1) = 0 :: (nums n).map (· + 1) := by
  unfold nums
  rw [List.range_succ_eq_map, List.map_cons, List.map_map, List.map_map, List.cons.injEq]
  refine ⟨rfl, List.map_congr_left fun k _ => ?_⟩
  show ((k + 1 : Nat) : Int) = (k : Int) + 1
  omega
theorem sum_dbl : ∀ xs : List Int, (xs.map (2 * ·)).sum = 2 * xs.sum
  | [] => rfl
  | x :: xs => by simp [sum_dbl xs, Int.mul_add]
theorem msk_sum (p : Int → Bool) : ∀ ss : List Int, (((nums ss.length).filter fun k => p (ss.getD k.toNat 0)).map fun k => (2 : Int) ^ k.toNat).sum = msk p ss
  | [] => rfl
  | s :: ss => by
    have ih := msk_sum p ss
    rw [List.length_cons, nums_succ, List.filter_cons, List.filter_map]
    have e1 : (nums ss.length).filter ((fun k : Int => p ((s :: ss).getD k.toNat 0)) ∘ (· + 1)) = (nums ss.length).filter fun k => p (ss.getD k.toNat 0) := by
      refine List.filter_congr fun k hk => ?_
      have := (nums_mem.mp hk).1
      show p ((s :: ss).getD (k + 1).toNat 0) = p (ss.getD k.toNat 0)
      rw [show (k + 1).toNat = k.toNat + 1 by omega]
      rfl
    rw [e1]
    generalize hF : (nums ss.length).filter (fun k => p (ss.getD k.toNat 0)) = F at ih
    have hnn : ∀ k ∈ F, 0 ≤ k := fun k hk => by
      rw [← hF] at hk
      exact (nums_mem.mp (List.mem_filter.mp hk).1).1
    have e2 : ((F.map (· + 1)).map fun k => (2 : Int) ^ k.toNat) = (F.map fun k => (2 : Int) ^ k.toNat).map (2 * ·) := by
      rw [List.map_map, List.map_map]
      refine List.map_congr_left fun k hk => ?_
      have := hnn k hk
      show (2 : Int) ^ (k + 1).toNat = 2 * 2 ^ k.toNat
      rw [show (k + 1).toNat = k.toNat + 1 by omega, Int.pow_succ, Int.mul_comm]
    simp only [msk]
    have e3 : (s :: ss).getD (0 : Int).toNat 0 = s := rfl
    rw [e3]
    cases hp : p s with
    | true =>
      simp only [if_true, List.map_cons, List.sum_cons]
      rw [e2, sum_dbl, ih]; rfl
    | false =>
      simp only [Bool.false_eq_true, if_false]
      rw [e2, sum_dbl, ih, Int.zero_add]
def gDr : D → D
  | .tup [.int k, .int b] => .int (b * 2 ^ k.toNat)
  | d => d
theorem enum_ints : ∀ (bs : List Int) (j : Nat), (∀ b ∈ bs, 0 ≤ b) → (∃ xs : List Int, (enumD j (bs.map D.int)).map gDr = xs.map D.int ∧ ∀ x ∈ xs, 0 ≤ x) ∧ (∀ x ∈ enumD j (bs.map D.int), ∃ (k : Nat) (b : Int), x = .tup [.int (k : Int), .int b] ∧ b ∈ bs ∧ k < j + bs.length) ∧ (enumD j (bs.map D.int)).length = bs.length
  | [], j, _ => ⟨⟨[], rfl, by simp⟩, by simp [enumD], rfl⟩
  | b :: bs, j, h => by
    obtain ⟨⟨xs, e1, e2⟩, e3, e4⟩ := enum_ints bs (j + 1) fun y hy => h y (List.mem_cons_of_mem _ hy)
    have hb := h b (List.mem_cons_self ..)
    refine ⟨⟨b * 2 ^ (j : Int).toNat :: xs, ?_, fun x hx => ?_⟩, fun x hx => ?_, ?_⟩
    · show gDr (.tup [.int (j : Int), .int b]) :: (enumD (j + 1) (bs.map D.int)).map gDr = _
      rw [e1]; rfl
    · rcases List.mem_cons.mp hx with rfl | hx
      · exact Int.mul_nonneg hb (Int.le_of_lt pow2_pos)
      · exact e2 x hx
    · rcases List.mem_cons.mp (show x ∈ D.tup [.int (j : Int), .int b] :: enumD (j + 1) (bs.map D.int) from hx) with rfl | hx
      · exact ⟨j, b, rfl, List.mem_cons_self .., by simp⟩
      · obtain ⟨k, b', h1, h2, h3⟩ := e3 x hx
        exact ⟨k, b', h1, List.mem_cons_of_mem _ h2, by simp; omega⟩
    · show (enumD (j + 1) (bs.map D.int)).length + 1 = _
      rw [e4]; rfl
theorem sum_nn : ∀ xs : List Int, (∀ x ∈ xs, 0 ≤ x) → 0 ≤ xs.sum
  | [], _ => Int.le_refl _
  | x :: xs, h => by
    have a := h x (List.mem_cons_self ..)
    have b := sum_nn xs fun y hy => h y (List.mem_cons_of_mem _ hy)
    rw [List.sum_cons]; omega
theorem maxL_four (a b c d : Int) : maxL [a, b, c, d] = (if a < (if b < (if c < d then d else c) then (if c < d then d else c) else b) then (if b < (if c < d then d else c) then (if c < d then d else c) else b) else a) := rfl
/-- the end of far -/
theorem far0_ok {m l z a b e : Int} {ns : List Int} (h1 : 2 ≤ l) (h2 : l ≤ m) (zm : Sz 1000 m) (zn : ∀ x ∈ ns, Sz 1000 x) (zz : Sz 1000 z) (hl : ns.length ≤ 2000) (he : 0 ≤ e)
    (ha : a = msk pos (ns.map (slp m l))) (hb : b = msk neg (ns.map (slp m l))) (d0 d4 d5 d7 d8 : D) :
    t__law_far_0 [some d0, some (.int m), some (.int l), some (.int (ns.length : Nat)), some d4, some d5, some (rowD ns z), some d7, some d8, some (.int a), some (.int b), some (.int e), none, none, none, none, none, none, none] = .rt (.bl true) := by
  have hm : 1 ≤ m := by omega
  have hl2 : ns.length ≤ 100000 := by omega
  have a0 : 0 ≤ a := by rw [ha]; exact (msk_rg pos _).1
  have b0 : 0 ≤ b := by rw [hb]; exact (msk_rg neg _).1
  have nn : ∀ k ∈ [a, b, e, 0], 0 ≤ k := by
    intro k hk
    simp only [List.mem_cons, List.not_mem_nil, or_false] at hk
    rcases hk with rfl | rfl | rfl | rfl <;> first | assumption | exact Int.le_refl _
  have c3 := comp_ints (it := iSeq (dLst (aCons (dVar 9) (aCons (dVar 10) (aCons (dVar 11) (aCons (dLit (.int 0)) aNil)))))) (t := bName 17) (e := c__law_far_3) (own := [17]) (η := [some d0, some (.int m), some (.int l), some (.int (ns.length : Nat)), some d4, some d5, some (rowD ns z), some d7, some d8, some (.int a), some (.int b), some (.int e), none, none, none, none, none, none, none]) (xs := [a, b, e, 0]) (drf m l z ns) (by simp) (fun x hx => ⟨_, rfl, by
    show c__law_far_3 [some d0, some (.int m), some (.int l), some (.int (ns.length : Nat)), some d4, some d5, some (rowD ns z), some d7, some d8, some (.int a), some (.int b), some (.int e), none, none, none, none, none, some (.int x), none] = _
    simp [c__law_far_3, drift_ok h1 h2 zm zn zz hl2 (nn x hx)]⟩) (by simp)
  have c4 := fun o12 => comp_ints (it := iSeq (dLst (aCons (dVar 9) (aCons (dVar 10) (aCons (dVar 11) (aCons (dLit (.int 0)) aNil)))))) (t := bName 17) (e := c__law_far_4) (own := [17]) (η := [some d0, some (.int m), some (.int l), some (.int (ns.length : Nat)), some d4, some d5, some (rowD ns z), some d7, some d8, some (.int a), some (.int b), some (.int e), o12, none, none, none, none, none, none]) (xs := [a, b, e, 0]) (drf m l z ns) (by simp) (fun x hx => ⟨_, rfl, by
    show c__law_far_4 [some d0, some (.int m), some (.int l), some (.int (ns.length : Nat)), some d4, some d5, some (rowD ns z), some d7, some d8, some (.int a), some (.int b), some (.int e), o12, none, none, none, none, some (.int x), none] = _
    simp [c__law_far_4, told_ok h1 h2 zm zn zz hl2 (nn x hx)]⟩) (by simp)
  have ne := ne_ints (xs := [a, b, e, 0].map (drf m l z ns)) (ys := [a, b, e, 0].map (drf m l z ns))
  have c5 := fun o13 o14 => comp_ints (it := iSeq (dVar 12)) (t := bName 18) (e := c__law_far_5) (own := [18]) (η := [some d0, some (.int m), some (.int l), some (.int (ns.length : Nat)), some d4, some d5, some (rowD ns z), some d7, some d8, some (.int a), some (.int b), some (.int e), some (.lst (([a, b, e, 0].map (drf m l z ns)).map D.int)), o13, o14, none, none, none, none]) (xs := [a, b, e, 0].map (drf m l z ns)) absI rfl (fun x hx => ⟨_, rfl, by
    show c__law_far_5 [some d0, some (.int m), some (.int l), some (.int (ns.length : Nat)), some d4, some d5, some (rowD ns z), some d7, some d8, some (.int a), some (.int b), some (.int e), some (.lst (([a, b, e, 0].map (drf m l z ns)).map D.int)), o13, o14, none, none, none, some (.int x)] = _
    simp only [c__law_far_5, ev_call, ev_cons, ev_varS, ev_var0, ev_nil, ev_bind, absD]⟩) (by simp)
  have mx : fMax [.lst ((([a, b, e, 0].map (drf m l z ns)).map absI).map D.int)] = .ok (.int (rch (-(slp m l z)) (ns.map (slp m l)))) := by
    have q := max_ints (absI (drf m l z ns a)) [absI (drf m l z ns b), absI (drf m l z ns e), absI (drf m l z ns 0)]
    have hq : maxL [absI (drf m l z ns a), absI (drf m l z ns b), absI (drf m l z ns e), absI (drf m l z ns 0)] = rch (-(slp m l z)) (ns.map (slp m l)) := by
      have r : ∀ k, absI (drf m l z ns k) ≤ rch (-(slp m l z)) (ns.map (slp m l)) := fun k => rch_bound (sel_rg k _)
      have r1 := r a
      have r2 := r b
      have r3 := r e
      have r4 := r 0
      have t := fun G => rch_le (s := -(slp m l z)) (xs := ns.map (slp m l)) (G := G)
      have ea : drf m l z ns a = -(slp m l z) + sumP pos (ns.map (slp m l)) := by unfold drf; rw [ha, sel_msk]
      have eb : drf m l z ns b = -(slp m l z) + sumP neg (ns.map (slp m l)) := by unfold drf; rw [hb, sel_msk]
      rw [← ea, ← eb] at t
      generalize absI (drf m l z ns a) = A at *
      generalize absI (drf m l z ns b) = B at *
      generalize absI (drf m l z ns e) = E at *
      generalize absI (drf m l z ns 0) = Z at *
      have t1 := t (if A < B then B else A) (by split <;> omega) (by split <;> omega)
      rw [maxL_four]
      generalize rch (-(slp m l z)) (ns.map (slp m l)) = R at *
      split at t1 <;> (repeat' split) <;> omega
    rw [hq] at q
    exact q
  have sn := lower_seen_ok h1 h2 zm zn zz hl2
  have pn := lower_planned_ok (k := ns.length) zm hl2
  have sp := seen_planned (m := m) (l := l) (z := z) (ns := ns) hm
  have zk : Sz 20 ((ns.length : Int) + 1) := by unfold Sz; omega
  have m1 : mulOk ((ns.length : Int) + 1) m = true := mul_ok zk zm (by decide)
  have nw : opNe (.lst (([a, b, e, 0].map (drf m l z ns)).map D.int)) (.lst (([a, b, e, 0].map (drf m l z ns)).map D.int)) = .ok (.bl false) := by rw [ne_ints]; simp
  generalize rch (-(slp m l z)) (ns.map (slp m l)) = rc at *
  generalize hq : ((ns.length : Int) + 1) * m / 2 = pl at *
  have dv : opDiv (.int (((ns.length : Int) + 1) * m)) (.int 2) = .ok (.int pl) := by rw [ev_div (div2 _), hq]
  generalize (([a, b, e, 0].map (drf m l z ns)).map absI).map D.int = L5 at *
  generalize ([a, b, e, 0].map (drf m l z ns)).map D.int = L3 at *
  generalize rowD ns z = R at *
  simp only [t__law_far_0, ev_seq, ev_asg, ↓c3, ev_on, ev_bnameS, ev_bname0, Option.map_some, ev_sif, ev_qB, ev_op2, ev_varS, ev_var0, ev_bind, ↓c4, nw, ev_toB, Bool.false_eq_true, if_false, ev_next, ev_call, ev_cons, ev_nil, sn, pn, ev_ret, ev_and, ↓c5, mx, ev_eqI, decide_true, if_true, ev_lit, ev_add, ev_mul m1, dv, ev_cmp, sp]
theorem shl1 {k : Int} (h0 : 0 ≤ k) (h1 : k ≤ 100000) : opShl (.int 1) (.int k) = .ok (.int (2 ^ k.toNat)) := by
  rw [ev_shl (by unfold shlOk; rw [show (1 : Int).natAbs.log2 = 0 from rfl]; simp; omega), Int.one_mul]
theorem far1_ok {c m l z d4 : Int} {ns nums0 : List Int} (h1 : 2 ≤ l) (h2 : l ≤ m) (zm : Sz 1000 m) (zn : ∀ x ∈ ns, Sz 1000 x) (zz : Sz 1000 z) (hl : ns.length ≤ 2000) (d5 : D) :
    t__law_far_1 [some (.int c), some (.int m), some (.int l), some (.int (ns.length : Nat)), some (.int d4), some d5, some (rowD ns z), none, none, none, none, none, none, none, none, none, none, none, none] = .rt (.bl true) := by
  have hl2 : ns.length ≤ 100000 := by omega
  have lw := is_lowered_ok h1 h2 zm zn zz hl2
  have rs := row_slips_ok h1 h2 zm zn zz hl2
  have sl : (ns.map (slp m l)).length = ns.length := by simp
  have rgn : ∀ o9 o10, iRange1 (dVar 3) [some (.int c), some (.int m), some (.int l), some (.int (ns.length : Nat)), some (.int d4), some d5, some (rowD ns z), some (.lst ((ns.map (slp m l)).map D.int)), some (.int (slp m l z)), o9, o10, none, none, none, none, none, none, none, none] = .ok ((nums ns.length).map D.int) := fun o9 o10 => by
    rw [← nums_D]; exact iRange_ok rfl (by omega)
  have ca := comp_filt (it := iRange1 (dVar 3)) (t := bName 15) (q := cq__law_far_0) (e := c__law_far_0) (own := [15]) (η := [some (.int c), some (.int m), some (.int l), some (.int (ns.length : Nat)), some (.int d4), some d5, some (rowD ns z), some (.lst ((ns.map (slp m l)).map D.int)), some (.int (slp m l z)), none, none, none, none, none, none, none, none, none, none]) (xs := nums ns.length) (fun k => pos ((ns.map (slp m l)).getD k.toNat 0)) (fun k => 2 ^ k.toNat) (rgn none none) (fun k hk => ⟨_, rfl, by
    have hk2 := nums_mem.mp hk
    have g := ints_get (ts := ns.map (slp m l)) hk2.1 (by rw [sl]; exact hk2.2)
    show cq__law_far_0 [some (.int c), some (.int m), some (.int l), some (.int (ns.length : Nat)), some (.int d4), some d5, some (rowD ns z), some (.lst ((ns.map (slp m l)).map D.int)), some (.int (slp m l z)), none, none, none, none, none, none, some (.int k), none, none, none] = _
    generalize (ns.map (slp m l)).map D.int = L at *
    simp only [cq__law_far_0, ev_qB, ev_op2, ev_varS, ev_var0, ev_bind, g, ev_lit, ev_cmp, ev_toB]; rfl, fun _ => by
    have hk2 := nums_mem.mp hk
    show c__law_far_0 [some (.int c), some (.int m), some (.int l), some (.int (ns.length : Nat)), some (.int d4), some d5, some (rowD ns z), some (.lst ((ns.map (slp m l)).map D.int)), some (.int (slp m l z)), none, none, none, none, none, none, some (.int k), none, none, none] = _
    simp only [c__law_far_0, ev_op2, ev_lit, ev_bind, ev_varS, ev_var0, shl1 hk2.1 (by omega)]⟩) (by simp [nums]; omega)
  have cb := fun o9 => comp_filt (it := iRange1 (dVar 3)) (t := bName 15) (q := cq__law_far_1) (e := c__law_far_1) (own := [15]) (η := [some (.int c), some (.int m), some (.int l), some (.int (ns.length : Nat)), some (.int d4), some d5, some (rowD ns z), some (.lst ((ns.map (slp m l)).map D.int)), some (.int (slp m l z)), o9, none, none, none, none, none, none, none, none, none]) (xs := nums ns.length) (fun k => neg ((ns.map (slp m l)).getD k.toNat 0)) (fun k => 2 ^ k.toNat) (rgn o9 none) (fun k hk => ⟨_, rfl, by
    have hk2 := nums_mem.mp hk
    have g := ints_get (ts := ns.map (slp m l)) hk2.1 (by rw [sl]; exact hk2.2)
    show cq__law_far_1 [some (.int c), some (.int m), some (.int l), some (.int (ns.length : Nat)), some (.int d4), some d5, some (rowD ns z), some (.lst ((ns.map (slp m l)).map D.int)), some (.int (slp m l z)), o9, none, none, none, none, none, some (.int k), none, none, none] = _
    generalize (ns.map (slp m l)).map D.int = L at *
    simp only [cq__law_far_1, ev_qB, ev_op2, ev_varS, ev_var0, ev_bind, g, ev_lit, ev_cmp, ev_toB]; rfl, fun _ => by
    have hk2 := nums_mem.mp hk
    show c__law_far_1 [some (.int c), some (.int m), some (.int l), some (.int (ns.length : Nat)), some (.int d4), some d5, some (rowD ns z), some (.lst ((ns.map (slp m l)).map D.int)), some (.int (slp m l z)), o9, none, none, none, none, none, some (.int k), none, none, none] = _
    simp only [c__law_far_1, ev_op2, ev_lit, ev_bind, ev_varS, ev_var0, shl1 hk2.1 (by omega)]⟩) (by simp [nums]; omega)
  have d16 : ∀ x : Int, divOk x 16 = true := fun x => lit_div (by decide) (by decide +kernel)
  obtain ⟨bs, v1, v2, v3⟩ := values_ok (c := c / 16) (lo := 0) (hi := 1) (n := ns.length) (by decide) (Sz.mono (n := 20) (Sz.lit (by decide)) (by decide)) (by omega)
  obtain ⟨⟨xs, e1, e2⟩, e3, e4⟩ := enum_ints bs 0 fun b hb => (v2 b hb).1
  have it0 : ∀ o9 o10, iEnum (dCall f__law_values (aCons (dOp2 opDiv (dVar 0) (dLit (.int 16))) (aCons (dVar 3) (aCons (dLit (.int 0)) (aCons (dLit (.int 1)) aNil))))) [some (.int c), some (.int m), some (.int l), some (.int (ns.length : Nat)), some (.int d4), some d5, some (rowD ns z), some (.lst ((ns.map (slp m l)).map D.int)), some (.int (slp m l z)), o9, o10, none, none, none, none, none, none, none, none] = .ok (enumD 0 (bs.map D.int)) := fun o9 o10 => by
    generalize bs.map D.int = B at *
    simp [ev_div, d16, v3]
  have cd := fun o9 o10 => dComp_map (it := iEnum (dCall f__law_values (aCons (dOp2 opDiv (dVar 0) (dLit (.int 16))) (aCons (dVar 3) (aCons (dLit (.int 0)) (aCons (dLit (.int 1)) aNil)))))) (t := bTup (bCons (bName 15) (bCons (bName 16) bNil))) (e := c__law_far_2) (own := [15, 16]) (η := [some (.int c), some (.int m), some (.int l), some (.int (ns.length : Nat)), some (.int d4), some d5, some (rowD ns z), some (.lst ((ns.map (slp m l)).map D.int)), some (.int (slp m l z)), o9, o10, none, none, none, none, none, none, none, none]) (xs := enumD 0 (bs.map D.int)) gDr (it0 o9 o10) (fun x hx => by
    obtain ⟨k, b, rfl, hb, hk⟩ := e3 x hx
    have hb2 := v2 b hb
    refine ⟨_, rfl, ?_⟩
    show c__law_far_2 [some (.int c), some (.int m), some (.int l), some (.int (ns.length : Nat)), some (.int d4), some d5, some (rowD ns z), some (.lst ((ns.map (slp m l)).map D.int)), some (.int (slp m l z)), o9, o10, none, none, none, none, some (.int (k : Int)), some (.int b), none, none] = _
    have sk : shlOk b (k : Int) = true := by
      have bl : b.natAbs.log2 = 0 := by
        rcases (show b = 0 ∨ b = 1 by omega) with rfl | rfl <;> decide
      unfold shlOk
      rw [bl, Int.toNat_natCast]
      simp; omega
    simp only [c__law_far_2, ev_op2, ev_varS, ev_var0, ev_bind, ev_shl sk]; rfl) (by rw [e4]; exact le_line (by omega))
  have sxs := sum_nn xs e2
  rw [e1] at cd
  have ms := msk_sum pos (ns.map (slp m l))
  have mn := msk_sum neg (ns.map (slp m l))
  rw [sl] at ms mn
  have sa := sum_ints (((nums ns.length).filter fun k => pos ((ns.map (slp m l)).getD k.toNat 0)).map fun k => (2 : Int) ^ k.toNat)
  have sb := sum_ints (((nums ns.length).filter fun k => neg ((ns.map (slp m l)).getD k.toNat 0)).map fun k => (2 : Int) ^ k.toNat)
  rw [ms] at sa
  rw [mn] at sb
  have sd := sum_ints xs
  have f0 := far0_ok h1 h2 zm zn zz hl sxs rfl rfl (.int c) (.int d4) d5 (.lst ((ns.map (slp m l)).map D.int)) (.int (slp m l z))
  unfold rowD at rs
  generalize (((nums ns.length).filter fun k => pos ((ns.map (slp m l)).getD k.toNat 0)).map fun k => (2 : Int) ^ k.toNat).map D.int = LA at *
  generalize (((nums ns.length).filter fun k => neg ((ns.map (slp m l)).getD k.toNat 0)).map fun k => (2 : Int) ^ k.toNat).map D.int = LB at *
  generalize xs.map D.int = LX at *
  generalize hR : rowD ns z = R at *
  unfold rowD at hR
  rw [hR] at rs
  generalize (ns.map (slp m l)).map D.int = L7 at *
  simp only [t__law_far_1, ev_seq, ev_sif, ev_qNot, ev_qTru, ev_call, ev_cons, ev_varS, ev_var0, ev_nil, ev_bind, lw, ev_truB, Bool.not_true, Bool.false_eq_true, if_false, ev_on, ev_next, ev_asg, rs, ev_btup, ev_bcons, ev_bnil, ev_bnameS, ev_bname0, Option.map_some, Option.bind_some, ↓ca, sa, ↓cb, sb, ↓cd, sd, f0]
theorem cut_tail {x : D} {xs : List D} : cutD (x :: xs) (some 1) none = xs := by
  unfold cutD slIx
  simp
def pick3 (r : Int) : Nat := if r = 0 then 60 else if r = 1 then 200 else 1024
theorem pick3_ok {r : Int} (h0 : 0 ≤ r) (h1 : r < 3) : opIx (.lst [.int 60, .int 200, .int 1024]) (.int r) = .ok (.int (pick3 r : Nat)) := by
  rcases (show r = 0 ∨ r = 1 ∨ r = 2 by omega) with rfl | rfl | rfl
  · exact ev_ixN (j := 0) rfl
  · exact ev_ixN (j := 1) rfl
  · exact ev_ixN (j := 2) rfl
theorem pick3_le {r : Int} : pick3 r ≤ 1024 := by unfold pick3; (repeat' split) <;> decide
theorem ints_sz {lo hi : Int} {s : Nat} (zl : Sz s lo) (zh : Sz s hi) {x : Int} (h : lo ≤ x ∧ x ≤ hi) : Sz s x := by
  unfold Sz at *; omega
theorem far_nums {c m : Int} (hm : 2 ≤ m) (zm : Sz 500 m) {k : Nat} (hk : k ≤ 1024) : ∃ (z : Int) (ns : List Int), ns.length = k ∧ (∀ x ∈ ns, Sz 1000 x) ∧ Sz 1000 z ∧ f__law_any [.int c, .int ((k : Int) + 1), .int (0 - (m - 1) / 2), .int (m / 2)] = .ok (.lst ((z :: ns).map D.int)) := by
  have o1 : Sz 500 (1 : Int) := Sz.mono (n := 1) (Sz.lit (by decide)) (by decide)
  have zh : Sz 600 (m / 2) := (zm.div (by decide)).mono (by decide)
  have zl : Sz 600 (0 - (m - 1) / 2) := by
    rw [Int.zero_sub]
    exact (((zm.sub o1).div (by decide)).neg).mono (by decide)
  obtain ⟨vs, v1, v2, v3⟩ := any_ok (c := c) (lo := 0 - (m - 1) / 2) (hi := m / 2) (n := k + 1) (by omega) (((zh.sub zl).add (o1.mono (by decide))).mono (by decide)) (by omega)
  cases vs with
  | nil => cases v1
  | cons z ns =>
    refine ⟨z, ns, by simpa using v1, fun x hx => (ints_sz zl zh (v2 x (List.mem_cons_of_mem _ hx))).mono (by decide), (ints_sz zl zh (v2 z (List.mem_cons_self ..))).mono (by decide), ?_⟩
    have e : ((k + 1 : Nat) : Int) = (k : Int) + 1 := by omega
    rw [← e]; exact v3
theorem far_ok {c m l : Int} (hc : 0 ≤ c) (h1 : 2 ≤ l) (h2 : l ≤ m) (zm : Sz 500 m) : f__law_far [.int c, .int m, .int l] = .ok (.bl true) := by
  have d2 : ∀ x : Int, divOk x 2 = true := div2
  have d8 : ∀ x : Int, divOk x 8 = true := fun x => lit_div (by decide) (by decide +kernel)
  have b1 := bit_one hc
  have r0 := Int.emod_nonneg (c / 2) (show (3 : Int) ≠ 0 by decide)
  have r1 := Int.emod_lt_of_pos (c / 2) (show (0 : Int) < 3 by decide)
  have pk := pick3_ok r0 r1
  have pl := pick3_le (r := c / 2 % 3)
  generalize pick3 (c / 2 % 3) = k at pk pl
  have md : opMod (.int (c / 2)) (.int 3) = .ok (.int (c / 2 % 3)) := ev_mod (by decide)
  have rest : ∀ (m l : Int), 2 ≤ l → l ≤ m → Sz 500 m → ∃ (z : Int) (ns : List Int), f__law_any [.int (c / 8), .int ((k : Int) + 1), .int (0 - (m - 1) / 2), .int (m / 2)] = .ok (.lst ((z :: ns).map D.int)) ∧ t__law_far_1 [some (.int c), some (.int m), some (.int l), some (.int (k : Int)), some (.int (0 - (m - 1) / 2)), some (.lst ((z :: ns).map D.int)), some (rowD ns z), none, none, none, none, none, none, none, none, none, none, none, none] = .rt (.bl true) := fun m l g1 g2 gz => by
    obtain ⟨z, ns, n1, n2, n3, n4⟩ := far_nums (c := c / 8) (m := m) (by omega) gz pl
    have t := far1_ok (c := c) (d4 := 0 - (m - 1) / 2) (nums0 := []) g1 g2 (gz.mono (by decide)) n2 n3 (by omega) (.lst ((z :: ns).map D.int))
    rw [n1] at t
    exact ⟨z, ns, n4, t⟩
  by_cases g : c % 2 = 0
  · obtain ⟨ms, v1, v2, v3⟩ := big_ok (c := c) (lo := 1152921504606846976) (hi := 1152921504606846976 * 1152921504606846976) (n := 1) (by decide) (by decide)
    obtain ⟨m', rfl⟩ : ∃ m', ms = [m'] := by
      cases ms with
      | nil => cases v1
      | cons a t => cases t with
        | nil => exact ⟨a, rfl⟩
        | cons b t => simp at v1
    have hm := v2 m' (List.mem_cons_self ..)
    have zm' : Sz 500 m' := Sz.mono (n := 130) (Sz.of_range (j := 1152921504606846976 * 1152921504606846976) (Sz.lit (by decide)) (by omega) hm.2) (by decide)
    obtain ⟨ls, w1, w2, w3⟩ := any_ok (c := c / 2) (lo := 2) (hi := m') (n := 1) (by omega) ((((zm'.sub (Sz.mono (n := 2) (Sz.lit (by decide)) (by decide))).add (Sz.mono (n := 1) (Sz.lit (by decide)) (by decide)))).mono (by decide)) (by decide)
    obtain ⟨l', rfl⟩ : ∃ l', ls = [l'] := by
      cases ls with
      | nil => cases w1
      | cons a t => cases t with
        | nil => exact ⟨a, rfl⟩
        | cons b t => simp at w1
    have hl' := w2 l' (List.mem_cons_self ..)
    obtain ⟨z, ns, n4, t⟩ := rest m' l' hl'.1 hl'.2 zm'
    have v3' : f__law_big [.int c, .int 1, .int 1152921504606846976, .int (1152921504606846976 * 1152921504606846976)] = .ok (.lst [.int m']) := v3
    have w3' : f__law_any [.int (c / 2), .int 1, .int 2, .int m'] = .ok (.lst [.int l']) := w3
    have mm : opMul (.int 1152921504606846976) (.int 1152921504606846976) = .ok (.int (1152921504606846976 * 1152921504606846976)) := ev_mul (mul_ok (n := 61) (m := 61) (Sz.lit (by decide)) (Sz.lit (by decide)) (by decide))
    generalize (1152921504606846976 * 1152921504606846976 : Int) = q at *
    have ct : cutD (D.int z :: ns.map D.int) (some 1) none = ns.map D.int := cut_tail
    unfold rowD at t
    simp only [List.map_cons, Int.zero_sub] at n4 t
    generalize ns.map D.int = NL at *
    simp [f__law_far, b__law_far, mk_fn, ev_bitAnd, b1, g, pow60, mm, v3', w3', ev_div, d2, d8, md, pk, n4, ct, t]
  · obtain ⟨z, ns, n4, t⟩ := rest m l h1 h2 zm
    have ct : cutD (D.int z :: ns.map D.int) (some 1) none = ns.map D.int := cut_tail
    unfold rowD at t
    simp only [List.map_cons, Int.zero_sub] at n4 t
    generalize ns.map D.int = NL at *
    have g1 : c % 2 = 1 := by omega
    simp [f__law_far, b__law_far, mk_fn, ev_bitAnd, b1, g1, ev_div, d2, d8, md, pk, n4, ct, t]
/-! the law -/
theorem lp_w1 {m : Int} {R : D} (d0 d1 d3 : D) (o4 o5 o6 o7 o8 o9 : Option D) : ∀ (xs : List Int) (o11 : Option D), (∀ x ∈ xs, x < 2 ∨ m < x) →
    ∃ o11', forGo (bName 11) w_law_1 (xs.map D.int) [some d0, some d1, some (.int m), some d3, o4, o5, o6, o7, o8, o9, some R, o11] = .nx [some d0, some d1, some (.int m), some d3, o4, o5, o6, o7, o8, o9, some R, o11']
  | [], o11, _ => ⟨o11, rfl⟩
  | x :: xs, o11, h => by
    obtain ⟨p, e⟩ := lp_w1 d0 d1 d3 o4 o5 o6 o7 o8 o9 xs (some (.int x)) fun y hy => h y (List.mem_cons_of_mem _ hy)
    refine ⟨p, ?_⟩
    have e2 : w_law_1 [some d0, some d1, some (.int m), some d3, o4, o5, o6, o7, o8, o9, some R, some (.int x)] = .nx [some d0, some d1, some (.int m), some d3, o4, o5, o6, o7, o8, o9, some R, some (.int x)] := by
      simp [w_law_1, refuses_ok (r := R) (h x (List.mem_cons_self ..))]
    rw [List.map_cons, forGo_nx (by simp) e2, e]
theorem law0_ok {c m l : Int} {ns : List Int} (h1 : 2 ≤ l) (h2 : l ≤ m) (zm : Sz 500 m) (o4 o5 o6 o7 o8 o9 o10 o11 : Option D) :
    t_law_0 [some (.lst (ns.map D.int)), some (.int c), some (.int m), some (.int l), o4, o5, o6, o7, o8, o9, o10, o11] = .rt (.bl true) := by
  have d4 : ∀ x : Int, divOk x 4 = true := fun x => lit_div (by decide) (by decide +kernel)
  have d64 : ∀ x : Int, divOk x 18446744073709551616 = true := fun x => lit_div (by decide) (by decide +kernel)
  have md8 : ∀ y : Int, opMod (.int y) (.int 8) = .ok (.int (y % 8)) := fun y => ev_mod (by decide)
  have e2 : f__law_cell [.lst (ns.map D.int), .int 2] = .ok (.int (cell ns 2)) := cell_ok (ns := ns) (k := 2)
  have e5 : f__law_cell [.lst (ns.map D.int), .int 5] = .ok (.int (cell ns 5)) := cell_ok (ns := ns) (k := 5)
  obtain ⟨c2, c20, ew2, _⟩ := wide_ok (c := cell ns 2)
  obtain ⟨c5, c50, ew5, _⟩ := wide_ok (c := cell ns 5)
  have fr := far_ok c20 h1 h2 zm
  have rc := reaches_ok (c := c5)
  generalize ns.map D.int = L at *
  by_cases g : c / 18446744073709551616 / 4 % 8 = 3
  · simp [t_law_0, pow64, ev_div, d64, d4, md8, g, e2, ew2, fr, e5, ew5, rc]
  · simp [t_law_0, pow64, ev_div, d64, d4, md8, g, e5, ew5, rc]
theorem law1_ok {c m l z : Int} {ns vs : List Int} (h1 : 2 ≤ l) (h2 : l ≤ m) (zm : Sz 500 m) (zv : ∀ x ∈ vs, Sz 1000 x) (zz : Sz 1000 z) (hl : vs.length ≤ 20) (o4 o5 o8 o9 : Option D) :
    t_law_1 [some (.lst (ns.map D.int)), some (.int c), some (.int m), some (.int l), o4, o5, some (.lst (vs.map D.int)), some (.int z), o8, o9, none, none] = .rt (.bl true) := by
  have lw := is_lowered_ok h1 h2 (zm.mono (by decide)) zv zz (by omega)
  have ak := asks_ok h1 h2 (zm.mono (by decide)) zv zz hl
  obtain ⟨o11, e⟩ := lp_w1 (m := m) (R := rowD vs z) (.lst (ns.map D.int)) (.int c) (.int l) o4 o5 (some (.lst (vs.map D.int))) (some (.int z)) o8 o9 [1, 0, -3, m + 1, 2 * m] none (by
    intro x hx
    simp only [List.mem_cons, List.not_mem_nil, or_false] at hx
    rcases hx with rfl | rfl | rfl | rfl | rfl <;> omega)
  have m2 : mulOk 2 m = true := mul_ok two2 zm (by decide)
  have f0 := law0_ok (c := c) (ns := ns) h1 h2 zm o4 o5 (some (.lst (vs.map D.int))) (some (.int z)) o8 o9 (some (rowD vs z)) o11
  simp only [List.map_cons, List.map_nil] at e
  unfold rowD at *
  generalize vs.map D.int = V at *
  generalize ns.map D.int = L at *
  simp [t_law_1, lw, ak, ev_mul, m2, e, f0]
theorem set_ints {vs : List Int} {k : Nat} {v : Int} (h : k < vs.length) : setD (vs.map D.int) (k : Int) (.int v) = some ((vs.set k v).map D.int) := by
  unfold setD
  rw [List.length_map, ix_nat h]
  show some ((vs.map D.int).set k (.int v)) = _
  rw [List.map_set]
theorem lp_w0 {m l e : Int} (h1 : 2 ≤ l) (h2 : l ≤ m) (zm : Sz 500 m) (he : 0 ≤ e) (d0 d1 d4 d5 d7 : D) : ∀ (j k : Nat) (vs : List Int) (o9 : Option D), k + j = vs.length → (∀ x ∈ vs, Sz 1000 x) →
    ∃ (ws : List Int) (o9' : Option D), ws.length = vs.length ∧ (∀ x ∈ ws, Sz 1000 x) ∧ forGo (bName 9) w_law_0 (rangeD k j) [some d0, some d1, some (.int m), some (.int l), some d4, some d5, some (.lst (vs.map D.int)), some d7, some (.int e), o9, none, none] = .nx [some d0, some d1, some (.int m), some (.int l), some d4, some d5, some (.lst (ws.map D.int)), some d7, some (.int e), o9', none, none]
  | 0, k, vs, o9, _, h => ⟨vs, o9, rfl, h, by rw [rangeD_zero, ev_forN]⟩
  | j + 1, k, vs, o9, hk, h => by
    have nn := div_nn he k
    have b1 := bit_one nn
    have sh := ev_bit (k := k) he
    have es : ((k + 1 : Nat) : Int) = (k : Int) + 1 := by omega
    by_cases g : e / 2 ^ k % 2 = 1
    · have zl : Sz 500 l := zm.le (by omega)
      have q0 := Int.emod_nonneg (e / 64) (show (9 : Int) ≠ 0 by decide)
      have q1 := Int.emod_lt_of_pos (e / 64) (show (0 : Int) < 9 by decide)
      have d64 : ∀ x : Int, divOk x 64 = true := fun x => lit_div (by decide) (by decide +kernel)
      have md9 : opMod (.int (e / 64)) (.int 9) = .ok (.int (e / 64 % 9)) := ev_mod (by decide)
      have m1 : mulOk 2 (e / 64 % 9 - 4) = true := mul_ok (m := 10) two2 (by unfold Sz; omega) (by decide)
      have m2 : mulOk (2 * (e / 64 % 9 - 4) + 1) m = true := mul_ok (n := 10) (by unfold Sz; omega) zm (by decide)
      have m3 : mulOk 2 l = true := mul_ok two2 zl (by decide)
      have dv : divOk ((2 * (e / 64 % 9 - 4) + 1) * m) (2 * l) = true := div_ok (by omega) ((two2.mul zl).mono (by decide))
      have lc := law_centred_is (v := (2 * (e / 64 % 9 - 4) + 1) * m / (2 * l)) (m := m) (by omega) (zm.mono (by decide))
      have dq : opDiv (.int ((2 * (e / 64 % 9 - 4) + 1) * m)) (.int (2 * l)) = .ok (.int ((2 * (e / 64 % 9 - 4) + 1) * m / (2 * l))) := ev_div dv
      generalize (2 * (e / 64 % 9 - 4) + 1) * m / (2 * l) = y at *
      have cf := cen_facts (a := y) (k := m) (by omega)
      have zc : Sz 1000 (cen y m) := (zm.le (by omega)).mono (by decide)
      obtain ⟨ws, p, w1, w2, w3⟩ := lp_w0 h1 h2 zm he d0 d1 d4 d5 d7 j (k + 1) (vs.set k (cen y m)) (some (.int (k : Int))) (by simp; omega) (fun x hx => by
        rcases List.mem_or_eq_of_mem_set hx with hx | rfl
        · exact h x hx
        · exact zc)
      rw [es] at w3
      refine ⟨ws, p, by rw [w1]; simp, w2, ?_⟩
      have st := set_ints (vs := vs) (k := k) (v := cen y m) (by omega)
      have e2 : w_law_0 [some d0, some d1, some (.int m), some (.int l), some d4, some d5, some (.lst (vs.map D.int)), some d7, some (.int e), some (.int (k : Int)), none, none] = .nx [some d0, some d1, some (.int m), some (.int l), some d4, some d5, some (.lst ((vs.set k (cen y m)).map D.int)), some d7, some (.int e), some (.int (k : Int)), none, none] := by
        generalize (vs.set k (cen y m)).map D.int = V2 at *
        generalize vs.map D.int = V at *
        simp [w_law_0, sh, ev_bitAnd, b1, g, ev_mul, m1, m2, m3, ev_div, d64, md9, dq, lc, st]
      rw [rangeD_succ, forGo_nx (by simp) e2, w3]
    · obtain ⟨ws, p, w1, w2, w3⟩ := lp_w0 h1 h2 zm he d0 d1 d4 d5 d7 j (k + 1) vs (some (.int (k : Int))) (by omega) h
      rw [es] at w3
      refine ⟨ws, p, w1, w2, ?_⟩
      have e2 : w_law_0 [some d0, some d1, some (.int m), some (.int l), some d4, some d5, some (.lst (vs.map D.int)), some d7, some (.int e), some (.int (k : Int)), none, none] = .nx [some d0, some d1, some (.int m), some (.int l), some d4, some d5, some (.lst (vs.map D.int)), some d7, some (.int e), some (.int (k : Int)), none, none] := by
        generalize vs.map D.int = V at *
        simp [w_law_0, sh, ev_bitAnd, b1, g]
      rw [rangeD_succ, forGo_nx (by simp) e2, w3]
theorem law2_ok {c m l : Int} {ns : List Int} (hc : 0 ≤ c) (h1 : 2 ≤ l) (h2 : l ≤ m) (zm : Sz 500 m) :
    t_law_2 [some (.lst (ns.map D.int)), some (.int c), some (.int m), some (.int l), some (.int (0 - (m - 1) / 2)), none, none, none, none, none, none, none] = .rt (.bl true) := by
  have pw : opPow (.int 2) (.int 62) = .ok (.int 4611686018427387904) := ev_pow (by decide +kernel)
  have d62 : ∀ x : Int, divOk x 4611686018427387904 = true := fun x => lit_div (by decide) (by decide +kernel)
  have e2 : f__law_cell [.lst (ns.map D.int), .int 2] = .ok (.int (cell ns 2)) := cell_ok (ns := ns) (k := 2)
  have e3 : f__law_cell [.lst (ns.map D.int), .int 3] = .ok (.int (cell ns 3)) := cell_ok (ns := ns) (k := 3)
  have e4 : f__law_cell [.lst (ns.map D.int), .int 4] = .ok (.int (cell ns 4)) := cell_ok (ns := ns) (k := 4)
  have o1 : Sz 500 (1 : Int) := Sz.mono (n := 1) (Sz.lit (by decide)) (by decide)
  have zh : Sz 600 (m / 2) := (zm.div (by decide)).mono (by decide)
  have zl : Sz 600 (0 - (m - 1) / 2) := by
    rw [Int.zero_sub]
    exact (((zm.sub o1).div (by decide)).neg).mono (by decide)
  have q0 := Int.emod_nonneg (c / 4611686018427387904) (show (5 : Int) ≠ 0 by decide)
  have q1 := Int.emod_lt_of_pos (c / 4611686018427387904) (show (0 : Int) < 5 by decide)
  have md : opMod (.int (c / 4611686018427387904)) (.int 5) = .ok (.int (c / 4611686018427387904 % 5)) := ev_mod (by decide)
  generalize c / 4611686018427387904 % 5 = r at q0 q1 md
  obtain ⟨k, hk⟩ : ∃ k : Nat, 1 + r = (k : Int) := ⟨(1 + r).toNat, by omega⟩
  have zw : Sz 9000 (m / 2 - (0 - (m - 1) / 2) + 1) := ((zh.sub zl).add (o1.mono (by decide))).mono (by decide)
  obtain ⟨vs, v1, v2, v3⟩ := values_ok (c := cell ns 2) (lo := 0 - (m - 1) / 2) (hi := m / 2) (n := k) (by omega) zw (by omega)
  obtain ⟨zs, z1, z2, z3⟩ := values_ok (c := cell ns 3) (lo := 0 - (m - 1) / 2) (hi := m / 2) (n := 1) (by omega) zw (by decide)
  obtain ⟨z, rfl⟩ : ∃ z, zs = [z] := by
    cases zs with
    | nil => cases z1
    | cons a t => cases t with
      | nil => exact ⟨a, rfl⟩
      | cons b t => simp at z1
  have zv : ∀ x ∈ vs, Sz 1000 x := fun x hx => (ints_sz zl zh (v2 x hx)).mono (by decide)
  have zz : Sz 1000 z := (ints_sz zl zh (z2 z (List.mem_cons_self ..))).mono (by decide)
  obtain ⟨e, he, ew, _⟩ := wide_ok (c := cell ns 4)
  obtain ⟨ws, o9, w1, w2, w3⟩ := lp_w0 h1 h2 zm he (.lst (ns.map D.int)) (.int c) (.int (0 - (m - 1) / 2)) (.int (m / 2)) (.int z) vs.length 0 vs none (by omega) zv
  have f1 := law1_ok (c := c) (ns := ns) h1 h2 zm w2 zz (by omega) (some (.int (0 - (m - 1) / 2))) (some (.int (m / 2))) (some (.int e)) o9
  have ll : (vs.map D.int).length = vs.length := by simp
  have rg : iRange1 (lenAt 6) [some (.lst (ns.map D.int)), some (.int c), some (.int m), some (.int l), some (.int (0 - (m - 1) / 2)), some (.int (m / 2)), some (.lst (vs.map D.int)), some (.int z), some (.int e), none, none, none] = .ok (rangeD 0 vs.length) := iRange_ok (by simp) (by omega)
  have w3' : forGo (bName 9) w_law_0 (rangeD 0 vs.length) _ = _ := w3
  rw [← hk] at v3
  have z3' : f__law_values [.int (cell ns 3), .int 1, .int (0 - (m - 1) / 2), .int (m / 2)] = .ok (.lst [.int z]) := z3
  generalize (0 - (m - 1) / 2) = lo at *
  generalize ns.map D.int = L at *
  generalize ws.map D.int = WS at *
  generalize vs.map D.int = VS at *
  simp [t_law_2, e2, e3, e4, ev_div, div2, d62, pw, md, v3, z3', ew, ↓rg, w3', f1]
theorem bit_three {z : Int} (h : 0 ≤ z) : Builtin.bitAnd z 3 = z % 4 := bit_low h 2
def pick4 (r : Int) : Int := if r = 0 then 62 else if r = 1 then 1022 else if r = 2 then 1073741824 else 2305843009213693950
theorem pick4_ok {r : Int} (h0 : 0 ≤ r) (h1 : r < 4) : opIx (.lst [.int 62, .int 1022, .int 1073741824, .int 2305843009213693950]) (.int r) = .ok (.int (pick4 r)) := by
  rcases (show r = 0 ∨ r = 1 ∨ r = 2 ∨ r = 3 by omega) with rfl | rfl | rfl | rfl
  · exact ev_ixN (j := 0) rfl
  · exact ev_ixN (j := 1) rfl
  · exact ev_ixN (j := 2) rfl
  · exact ev_ixN (j := 3) rfl
theorem law3_ok {c : Int} {ns : List Int} (hc : 0 ≤ c) :
    t_law_3 [some (.lst (ns.map D.int)), some (.int c), none, none, none, none, none, none, none, none, none, none] = .rt (.bl true) := by
  have d16 : ∀ x : Int, divOk x 16 = true := fun x => lit_div (by decide) (by decide +kernel)
  have d4 : ∀ x : Int, divOk x 4 = true := fun x => lit_div (by decide) (by decide +kernel)
  have d60 : ∀ x : Int, divOk x 1152921504606846976 = true := fun x => lit_div (by decide) (by decide +kernel)
  have p30 : opPow (.int 2) (.int 30) = .ok (.int 1073741824) := ev_pow (by decide +kernel)
  have p61 : opPow (.int 2) (.int 61) = .ok (.int 2305843009213693952) := ev_pow (by decide +kernel)
  have b3 := bit_three hc
  have b3' := bit_three (Int.ediv_nonneg hc (show (0 : Int) ≤ 4 by decide))
  have b1 := bit_one (Int.ediv_nonneg hc (show (0 : Int) ≤ 1152921504606846976 by decide))
  have r0 := Int.emod_nonneg c (show (4 : Int) ≠ 0 by decide)
  have r1 := Int.emod_lt_of_pos c (show (0 : Int) < 4 by decide)
  have pk := pick4_ok r0 r1
  have pp : 0 < pick4 (c % 4) ∧ pick4 (c % 4) ≤ 2305843009213693950 := by unfold pick4; (repeat' split) <;> decide
  generalize pick4 (c % 4) = q at pk pp
  have mq : opMod (.int (c / 16)) (.int q) = .ok (.int (c / 16 % q)) := ev_mod pp.1
  have x0 := Int.emod_nonneg (c / 16) (show q ≠ 0 by omega)
  have x1 := Int.emod_lt_of_pos (c / 16) pp.1
  have e1 : f__law_cell [.lst (ns.map D.int), .int 1] = .ok (.int (cell ns 1)) := cell_ok (ns := ns) (k := 1)
  have key : ∀ m : Int, 2 ≤ m → Sz 500 m → ∀ w, w = (if 31 < m - 1 then (31 : Int) else m - 1) →
      opMod (.int (cell ns 1)) (.int (m - 1)) = .ok (.int (cell ns 1 % (m - 1))) ∧ opMod (.int (cell ns 1)) (.int w) = .ok (.int (cell ns 1 % w)) ∧
      t_law_2 [some (.lst (ns.map D.int)), some (.int c), some (.int m), some (.int (2 + cell ns 1 % (m - 1))), some (.int (0 - (m - 1) / 2)), none, none, none, none, none, none, none] = .rt (.bl true) ∧
      t_law_2 [some (.lst (ns.map D.int)), some (.int c), some (.int m), some (.int (2 + cell ns 1 % w)), some (.int (0 - (m - 1) / 2)), none, none, none, none, none, none, none] = .rt (.bl true) := fun m hm zm w hw => by
    have wp : 0 < w ∧ w ≤ m - 1 := by rw [hw]; split <;> omega
    have a := Int.emod_nonneg (cell ns 1) (show m - 1 ≠ 0 by omega)
    have b := Int.emod_lt_of_pos (cell ns 1) (show 0 < m - 1 by omega)
    have a' := Int.emod_nonneg (cell ns 1) (show w ≠ 0 by omega)
    have b' := Int.emod_lt_of_pos (cell ns 1) wp.1
    exact ⟨ev_mod (by omega), ev_mod wp.1, law2_ok hc (by omega) (by omega) zm, law2_ok hc (by omega) (by omega) zm⟩
  have y0 := Int.emod_nonneg (c / 16) (show (50 : Int) ≠ 0 by decide)
  have y1 := Int.emod_lt_of_pos (c / 16) (show (0 : Int) < 50 by decide)
  have m50 : opMod (.int (c / 16)) (.int 50) = .ok (.int (c / 16 % 50)) := ev_mod (by decide)
  have sh := shl1 (k := 3 + c / 16 % 50) (by omega) (by omega)
  have zm1 : Sz 500 (2 + c / 16 % q) := Sz.mono (n := 70) (by unfold Sz; omega) (by decide)
  obtain ⟨k, hk⟩ : ∃ k : Nat, 3 + c / 16 % 50 = (k : Int) := ⟨(3 + c / 16 % 50).toNat, by omega⟩
  have zm2 : Sz 500 ((2 : Int) ^ (3 + c / 16 % 50).toNat) := by
    rw [hk, Int.toNat_natCast]
    exact pow_sz.mono (by omega)
  have gm2 : 2 ≤ (2 : Int) ^ (3 + c / 16 % 50).toNat := by
    rw [hk, Int.toNat_natCast]
    obtain ⟨j, rfl⟩ : ∃ j, k = j + 1 := ⟨k - 1, by omega⟩
    have := pow2_pos (t := j)
    rw [Int.pow_succ]; omega
  generalize (2 : Int) ^ (3 + c / 16 % 50).toNat = m2 at *
  obtain ⟨k1, k2, k3, k4⟩ := key (2 + c / 16 % q) (by omega) zm1 _ rfl
  obtain ⟨l1, l2, l3, l4⟩ := key m2 gm2 zm2 _ rfl
  have d2 := div2
  generalize ns.map D.int = L at *
  by_cases g : c / 4 % 4 = 0
  · by_cases g2 : c / 1152921504606846976 % 2 = 0
    · simp [-Int.zero_sub, t_law_3, ev_div, d16, d4, d60, d2, p30, p61, pow60, ev_bitAnd, b3, b3', b1, pk, mq, m50, sh, g, g2, e1, l1, l2, l3, l4]
    · simp [-Int.zero_sub, t_law_3, ev_div, d16, d4, d60, d2, p30, p61, pow60, ev_bitAnd, b3, b3', b1, pk, mq, m50, sh, g, g2, e1, l1, l2, l3, l4]
  · by_cases g2 : c / 1152921504606846976 % 2 = 0
    · simp [-Int.zero_sub, t_law_3, ev_div, d16, d4, d60, d2, p30, p61, pow60, ev_bitAnd, b3, b3', b1, pk, mq, m50, sh, g, g2, e1, k1, k2, k3, k4]
    · simp [-Int.zero_sub, t_law_3, ev_div, d16, d4, d60, d2, p30, p61, pow60, ev_bitAnd, b3, b3', b1, pk, mq, m50, sh, g, g2, e1, k1, k2, k3, k4]
theorem math (ns : List Int) (hl : ns.length ≤ 63) (hb : ∀ z ∈ ns, Builtin.Int.intBits z ≤ 1048576) : f_law [.lst (ns.map D.int)] = .ok (.bl true) := by
  have e0 : f__law_cell [.lst (ns.map D.int), .int 0] = .ok (.int (cell ns 0)) := cell_ok (ns := ns) (k := 0)
  obtain ⟨c, hc, ew, _⟩ := wide_ok (c := cell ns 0)
  have t := law3_ok (ns := ns) hc
  generalize ns.map D.int = L at *
  simp [f_law, b_law, mk_fn, e0, ew, t]
end K39
namespace K39
open PySem PySem.Spec L2 VL
structure Tx (K : PySem.W.Frag) (mg : Str → Option Value) : Prop where
  blt : Blt mg
  er : ErT K mg
theorem hu65 {k : Nat} {A : Around} (hr : Room k A) : A.units + 65 < cLine := by have := hr.un; omega
abbrev top (i : Nat) : Stmt := PySem.Challenge.pw_noisepurse_k39_lowered_rows.main.body.getD i (.Pass ⟨0, 0, 0, 0⟩)
abbrev st_check_modulus : Stmt := top 5
theorem sc_check_modulus : FnScope ["k"] ["k"] (defScope st_check_modulus) := ⟨rfl, rfl, rfl, by decide +kernel, rfl, by decide +kernel, by decide +kernel⟩
theorem ok_check_modulus {P : Program} {w : World} {K : PySem.W.Frag} {mg : Str → Option Value} {base : Heap} {fA : Addr} {fd : FuncData} {dvs : List V} {kws : List (Str × V)} (t : Tx K mg) {C_OutOfRange : Addr} (g_OutOfRange : mg "OutOfRange" = some (.ref C_OutOfRange))  (F : FunD K "check_modulus" "check_modulus" (defArgs st_check_modulus) (defBody st_check_modulus) (defScope st_check_modulus) dvs kws fA fd) :
    FnOk P w K mg base (L2.CX P w) 1 fA fd ["k"] (spF ⟨K, mg, none⟩ 1 f_check_modulus 0) := by
  have nd := (sc_check_modulus).nd
  exact fn_ok (Γ := [0]) (Γ' := [0]) F sc_check_modulus rfl rfl (fun cdv A outer s H E hr => by
    unfold b_check_modulus
    exact (ss_one (s_if (Γ' := [0]) rfl (q_cmp op_lt opd_B0 (e_var 0) (e_int (n := 0)) (nomark _))
 (ss_one (s_raise (Γ' := [0]) .range rfl rfl rfl (takes_of rfl rfl rfl rfl) (t.er.erc .range _ g_OutOfRange rfl)))
 (ss_nil))))
abbrev st_centred : Stmt := top 6
theorem sc_centred : FnScope ["a", "k"] ["a", "k"] (defScope st_centred) := ⟨rfl, rfl, rfl, by decide +kernel, rfl, by decide +kernel, by decide +kernel⟩
theorem ok_centred {P : Program} {w : World} {K : PySem.W.Frag} {mg : Str → Option Value} {base : Heap} {fA : Addr} {fd : FuncData} {dvs : List V} {kws : List (Str × V)} (t : Tx K mg)  (c_check_modulus : FnS P w K mg base "check_modulus" 1 1 f_check_modulus 0 []) (F : FunD K "centred" "centred" (defArgs st_centred) (defBody st_centred) (defScope st_centred) dvs kws fA fd) :
    FnOk P w K mg base (L2.CX P w) 2 fA fd ["a", "k"] (spF ⟨K, mg, none⟩ 2 f_centred 0) := by
  have nd := (sc_centred).nd
  exact fn_ok (Γ := [0, 0]) (Γ' := [0, 0]) F sc_centred rfl rfl (fun cdv A outer s H E hr => by
    unfold b_centred
    exact (ss_cons (s_expr rfl (e_fn c_check_modulus hr (by decide) (takes_of rfl rfl rfl rfl) (a_cons (e_var 1) a_nil) (al_cons al_nil)))
 (ss_one (s_ret (Γ' := [0, 0]) rfl (e_op2 (n := 0) op_sub od_sub (e_op2 (n := 0) op_fdivL od_div (e_var 1) (e_int (n := 0))) (e_op2 (n := 0) op_mod od_mod (e_op2 (n := 0) op_sub od_sub (e_op2 (n := 0) op_fdivL od_div (e_var 1) (e_int (n := 0))) (e_var 0)) (e_var 1)))))))
abbrev st_round_div : Stmt := top 7
theorem sc_round_div : FnScope ["a", "b"] ["a", "b"] (defScope st_round_div) := ⟨rfl, rfl, rfl, by decide +kernel, rfl, by decide +kernel, by decide +kernel⟩
theorem ok_round_div {P : Program} {w : World} {K : PySem.W.Frag} {mg : Str → Option Value} {base : Heap} {fA : Addr} {fd : FuncData} {dvs : List V} {kws : List (Str × V)} (t : Tx K mg)  (c_check_modulus : FnS P w K mg base "check_modulus" 1 1 f_check_modulus 0 []) (F : FunD K "round_div" "round_div" (defArgs st_round_div) (defBody st_round_div) (defScope st_round_div) dvs kws fA fd) :
    FnOk P w K mg base (L2.CX P w) 2 fA fd ["a", "b"] (spF ⟨K, mg, none⟩ 2 f_round_div 0) := by
  have nd := (sc_round_div).nd
  exact fn_ok (Γ := [0, 0]) (Γ' := [0, 0]) F sc_round_div rfl rfl (fun cdv A outer s H E hr => by
    unfold b_round_div
    exact (ss_cons (s_expr rfl (e_fn c_check_modulus hr (by decide) (takes_of rfl rfl rfl rfl) (a_cons (e_var 1) a_nil) (al_cons al_nil)))
 (ss_one (s_ret (Γ' := [0, 0]) rfl (e_op2 (n := 0) op_fdivL od_div (e_op2 op_addD od_add (e_op2 op_mulD od_mul (e_int (n := 0)) (e_var 0)) (e_var 1)) (e_op2 op_mulD od_mul (e_int (n := 0)) (e_var 1)))))))
abbrev st_centred_row : Stmt := top 9
theorem sc_centred_row : FnScope ["modulus", "numbers", "last", "number"] ["modulus", "numbers", "last"] (defScope st_centred_row) := ⟨rfl, rfl, rfl, by decide +kernel, rfl, by decide +kernel, by decide +kernel⟩
theorem ok_centred_row {P : Program} {w : World} {K : PySem.W.Frag} {mg : Str → Option Value} {base : Heap} {fA : Addr} {fd : FuncData} {dvs : List V} {kws : List (Str × V)} (t : Tx K mg)  (c_centred : FnS P w K mg base "centred" 2 2 f_centred 0 []) (F : FunD K "centred_row" "centred_row" (defArgs st_centred_row) (defBody st_centred_row) (defScope st_centred_row) dvs kws fA fd) :
    FnOk P w K mg base (L2.CX P w) 3 fA fd ["modulus", "numbers", "last"] (spF ⟨K, mg, none⟩ 3 f_centred_row 0) := by
  have nd := (sc_centred_row).nd
  exact fn_ok (Γ := [0, 0, 0, 0]) (Γ' := [0, 0, 0, 0]) F sc_centred_row rfl rfl (fun cdv A outer s H E hr => by
    unfold b_centred_row c_centred_row_0
    exact (ss_one (s_ret (Γ' := [0, 0, 0, 0]) rfl (e_tup (n := 0) (a_cons (e_comp rfl nd (i_seq (e_var 1)) (blkOk_by (own := [(("number" : Str), 3)]) (by kernel_rfl)) (by decide) (fun _ _ _ _ _ => (g_name 3 nd)) (fun _ _ _ _ _ => t_nil) (fun _ _ _ _ _ => (e_fn c_centred hr (by decide) takes0 (a_cons (e_var 3) (a_cons (e_var 0) a_nil)) (al_cons (al_cons al_nil))))) (a_cons (e_fn c_centred hr (by decide) (takes_of rfl rfl rfl rfl) (a_cons (e_var 2) (a_cons (e_var 0) a_nil)) (al_cons (al_cons al_nil))) a_nil))))))
abbrev st_check_lower : Stmt := top 10
theorem sc_check_lower : FnScope ["modulus", "lower"] ["modulus", "lower"] (defScope st_check_lower) := ⟨rfl, rfl, rfl, by decide +kernel, rfl, by decide +kernel, by decide +kernel⟩
theorem ok_check_lower {P : Program} {w : World} {K : PySem.W.Frag} {mg : Str → Option Value} {base : Heap} {fA : Addr} {fd : FuncData} {dvs : List V} {kws : List (Str × V)} (t : Tx K mg) {C_OutOfRange : Addr} (g_OutOfRange : mg "OutOfRange" = some (.ref C_OutOfRange))  (F : FunD K "check_lower" "check_lower" (defArgs st_check_lower) (defBody st_check_lower) (defScope st_check_lower) dvs kws fA fd) :
    FnOk P w K mg base (L2.CX P w) 1 fA fd ["modulus", "lower"] (spF ⟨K, mg, none⟩ 2 f_check_lower 0) := by
  have nd := (sc_check_lower).nd
  exact fn_ok (Γ := [0, 0]) (Γ' := [0, 0]) F sc_check_lower rfl rfl (fun cdv A outer s H E hr => by
    unfold b_check_lower
    exact (ss_one (s_if (Γ' := [0, 0]) rfl (q_w (w_or (q_cmp op_lt opd_B0 (e_var 1) (e_int (n := 0)) (nomark _)) (w_or1 (q_cmp op_gt opd_B0 (e_var 1) (e_var 0) (nomark _)))))
 (ss_one (s_raise (Γ' := [0, 0]) .range rfl rfl rfl (takes_of rfl rfl rfl rfl) (t.er.erc .range _ g_OutOfRange rfl)))
 (ss_nil))))
abbrev st_row_lower : Stmt := top 11
theorem sc_row_lower : FnScope ["modulus", "row", "lower", "numbers", "number"] ["modulus", "row", "lower"] (defScope st_row_lower) := ⟨rfl, rfl, rfl, by decide +kernel, rfl, by decide +kernel, by decide +kernel⟩
theorem ok_row_lower {P : Program} {w : World} {K : PySem.W.Frag} {mg : Str → Option Value} {base : Heap} {fA : Addr} {fd : FuncData} {dvs : List V} {kws : List (Str × V)} (t : Tx K mg)  (c_check_lower : FnS P w K mg base "check_lower" 1 2 f_check_lower 0 []) (c_round_div : FnS P w K mg base "round_div" 2 2 f_round_div 0 []) (c_centred_row : FnS P w K mg base "centred_row" 3 3 f_centred_row 0 []) (F : FunD K "row_lower" "row_lower" (defArgs st_row_lower) (defBody st_row_lower) (defScope st_row_lower) dvs kws fA fd) :
    FnOk P w K mg base (L2.CX P w) 4 fA fd ["modulus", "row", "lower"] (spF ⟨K, mg, none⟩ 3 f_row_lower 0) := by
  have nd := (sc_row_lower).nd
  exact fn_ok (Γ := [0, 0, 0, 0, 0]) (Γ' := [0, 0, 0, 0, 0]) F sc_row_lower rfl rfl (fun cdv A outer s H E hr => by
    unfold b_row_lower c_row_lower_0
    exact (ss_cons (s_expr rfl (e_fn c_check_lower hr (by decide) (takes_of rfl rfl rfl rfl) (a_cons (e_var 0) (a_cons (e_var 2) a_nil)) (al_cons (al_cons al_nil))))
 (ss_cons (s_fz [false, false, false, false, false] rfl (Γ1 := [0, 0, 0, 1, 0]) (Γ2 := [0, 0, 0, 0, 0]) (s_asgC 3 rfl rfl nd (i_seq (e_ix (e_var 1) (e_int (n := 0)))) (blkOk_by (own := [(("number" : Str), 4)]) (by kernel_rfl)) (by decide) (fun _ _ _ _ _ => (g_name 4 nd)) (fun _ _ _ _ _ => t_nil) (fun _ _ _ _ _ => (e_fn c_round_div hr (by decide) takes0 (a_cons (e_op2 op_mulD od_mul (e_var 2) (e_var 4)) (a_cons (e_var 0) a_nil)) (al_cons (al_cons al_nil)))) (Γ' := [0, 0, 0, 1, 0]) rfl (Or.inl (by decide))))
 (ss_one (s_ret (Γ' := [0, 0, 0, 0, 0]) rfl (e_fn c_centred_row hr (by decide) (takes_of rfl rfl rfl rfl) (a_cons (e_var 2) (a_cons (e_var 3) (a_cons (e_fn c_round_div hr (by decide) (takes_of rfl rfl rfl rfl) (a_cons (e_op2 op_mulD od_mul (e_var 2) (e_ix (e_var 1) (e_int (n := 0)))) (a_cons (e_var 0) a_nil)) (al_cons (al_cons al_nil))) a_nil))) (al_cons (al_cons (al_cons al_nil)))))))))
abbrev st_slip : Stmt := top 12
theorem sc_slip : FnScope ["modulus", "number", "lower"] ["modulus", "number", "lower"] (defScope st_slip) := ⟨rfl, rfl, rfl, by decide +kernel, rfl, by decide +kernel, by decide +kernel⟩
theorem ok_slip {P : Program} {w : World} {K : PySem.W.Frag} {mg : Str → Option Value} {base : Heap} {fA : Addr} {fd : FuncData} {dvs : List V} {kws : List (Str × V)} (t : Tx K mg)  (c_round_div : FnS P w K mg base "round_div" 2 2 f_round_div 0 []) (F : FunD K "slip" "slip" (defArgs st_slip) (defBody st_slip) (defScope st_slip) dvs kws fA fd) :
    FnOk P w K mg base (L2.CX P w) 3 fA fd ["modulus", "number", "lower"] (spF ⟨K, mg, none⟩ 3 f_slip 0) := by
  have nd := (sc_slip).nd
  exact fn_ok (Γ := [0, 0, 0]) (Γ' := [0, 0, 0]) F sc_slip rfl rfl (fun cdv A outer s H E hr => by
    unfold b_slip
    exact (ss_one (s_ret (Γ' := [0, 0, 0]) rfl (e_op2 (n := 0) op_sub od_sub (e_op2 op_mulD od_mul (e_var 2) (e_var 1)) (e_op2 op_mulD od_mul (e_var 0) (e_fn c_round_div hr (by decide) (takes_of rfl rfl rfl rfl) (a_cons (e_op2 op_mulD od_mul (e_var 2) (e_var 1)) (a_cons (e_var 0) a_nil)) (al_cons (al_cons al_nil))))))))
abbrev st_row_slips : Stmt := top 13
theorem sc_row_slips : FnScope ["modulus", "row", "lower", "number"] ["modulus", "row", "lower"] (defScope st_row_slips) := ⟨rfl, rfl, rfl, by decide +kernel, rfl, by decide +kernel, by decide +kernel⟩
theorem ok_row_slips {P : Program} {w : World} {K : PySem.W.Frag} {mg : Str → Option Value} {base : Heap} {fA : Addr} {fd : FuncData} {dvs : List V} {kws : List (Str × V)} (t : Tx K mg)  (c_check_lower : FnS P w K mg base "check_lower" 1 2 f_check_lower 0 []) (c_slip : FnS P w K mg base "slip" 3 3 f_slip 0 []) (F : FunD K "row_slips" "row_slips" (defArgs st_row_slips) (defBody st_row_slips) (defScope st_row_slips) dvs kws fA fd) :
    FnOk P w K mg base (L2.CX P w) 4 fA fd ["modulus", "row", "lower"] (spF ⟨K, mg, none⟩ 3 f_row_slips 0) := by
  have nd := (sc_row_slips).nd
  exact fn_ok (Γ := [0, 0, 0, 0]) (Γ' := [0, 0, 0, 0]) F sc_row_slips rfl rfl (fun cdv A outer s H E hr => by
    unfold b_row_slips c_row_slips_0
    exact (ss_cons (s_expr rfl (e_fn c_check_lower hr (by decide) (takes_of rfl rfl rfl rfl) (a_cons (e_var 0) (a_cons (e_var 2) a_nil)) (al_cons (al_cons al_nil))))
 (ss_one (s_ret (Γ' := [0, 0, 0, 0]) rfl (e_tup (n := 0) (a_cons (e_comp rfl nd (i_seq (e_ix (e_var 1) (e_int (n := 0)))) (blkOk_by (own := [(("number" : Str), 3)]) (by kernel_rfl)) (by decide) (fun _ _ _ _ _ => (g_name 3 nd)) (fun _ _ _ _ _ => t_nil) (fun _ _ _ _ _ => (e_fn c_slip hr (by decide) takes0 (a_cons (e_var 0) (a_cons (e_var 3) (a_cons (e_var 2) a_nil))) (al_cons (al_cons (al_cons al_nil)))))) (a_cons (e_fn c_slip hr (by decide) (takes_of rfl rfl rfl rfl) (a_cons (e_var 0) (a_cons (e_ix (e_var 1) (e_int (n := 0))) (a_cons (e_var 2) a_nil))) (al_cons (al_cons (al_cons al_nil)))) a_nil)))))))
abbrev st_reach : Stmt := top 15
theorem sc_reach : FnScope ["start", "others", "above", "below", "other"] ["start", "others"] (defScope st_reach) := ⟨rfl, rfl, rfl, by decide +kernel, rfl, by decide +kernel, by decide +kernel⟩
theorem ok_reach {P : Program} {w : World} {K : PySem.W.Frag} {mg : Str → Option Value} {base : Heap} {fA : Addr} {fd : FuncData} {dvs : List V} {kws : List (Str × V)} (t : Tx K mg)   (F : FunD K "reach" "reach" (defArgs st_reach) (defBody st_reach) (defScope st_reach) dvs kws fA fd) :
    FnOk P w K mg base (L2.CX P w) 1 fA fd ["start", "others"] (spF ⟨K, mg, none⟩ 2 f_reach 0) := by
  have nd := (sc_reach).nd
  exact fn_ok (Γ := [0, 0, 0, 0, 0]) (Γ' := [0, 0, 0, 0, 0]) F sc_reach rfl rfl (fun cdv A outer s H E hr => by
    unfold b_reach cq_reach_1 cq_reach_0
    exact (ss_cons (s_asg (Γ' := [0, 0, 0, 0, 0]) 2 rfl nd (e_sum (n := 0) t.blt.sum (a_cons (e_comp rfl nd (i_seq (e_var 1)) (blkOk_by (own := [(("other" : Str), 4)]) (by kernel_rfl)) (by decide) (fun _ _ _ _ _ => (g_name 4 nd)) (fun _ _ _ _ _ => (t_one (q_cmp op_gt opd_B0 (e_var 4) (e_int (n := 0)) (nomark _)))) (fun _ _ _ _ _ => (e_var 4))) a_nil)) rfl)
 (ss_cons (s_asg (Γ' := [0, 0, 0, 0, 0]) 3 rfl nd (e_sum (n := 0) t.blt.sum (a_cons (e_comp rfl nd (i_seq (e_var 1)) (blkOk_by (own := [(("other" : Str), 4)]) (by kernel_rfl)) (by decide) (fun _ _ _ _ _ => (g_name 4 nd)) (fun _ _ _ _ _ => (t_one (q_cmp op_lt opd_B0 (e_var 4) (e_int (n := 0)) (nomark _)))) (fun _ _ _ _ _ => (e_var 4))) a_nil)) rfl)
 (ss_one (s_ret (Γ' := [0, 0, 0, 0, 0]) rfl (e_max2 (n := 0) t.blt.max (a_cons (e_op2 op_addD od_add (e_var 0) (e_var 2)) (a_cons (e_op2 (n := 0) op_sub od_sub (e_un (n := 0) un_neg ud_neg (e_var 0)) (e_var 3)) a_nil))))))))
abbrev st_lower_seen : Stmt := top 16
theorem sc_lower_seen : FnScope ["modulus", "row", "lower", "slips", "last"] ["modulus", "row", "lower"] (defScope st_lower_seen) := ⟨rfl, rfl, rfl, by decide +kernel, rfl, by decide +kernel, by decide +kernel⟩
theorem ok_lower_seen {P : Program} {w : World} {K : PySem.W.Frag} {mg : Str → Option Value} {base : Heap} {fA : Addr} {fd : FuncData} {dvs : List V} {kws : List (Str × V)} (t : Tx K mg)  (c_row_slips : FnS P w K mg base "row_slips" 4 3 f_row_slips 0 []) (c_reach : FnS P w K mg base "reach" 1 2 f_reach 0 []) (F : FunD K "lower_seen" "lower_seen" (defArgs st_lower_seen) (defBody st_lower_seen) (defScope st_lower_seen) dvs kws fA fd) :
    FnOk P w K mg base (L2.CX P w) 5 fA fd ["modulus", "row", "lower"] (spF ⟨K, mg, none⟩ 3 f_lower_seen 0) := by
  have nd := (sc_lower_seen).nd
  exact fn_ok (Γ := [0, 0, 0, 0, 0]) (Γ' := [0, 0, 0, 0, 0]) F sc_lower_seen rfl rfl (fun cdv A outer s H E hr => by
    unfold b_lower_seen
    exact (ss_cons (s_asgT rfl (e_fn c_row_slips hr (by decide) (takes_of rfl rfl rfl rfl) (a_cons (e_var 0) (a_cons (e_var 1) (a_cons (e_var 2) a_nil))) (al_cons (al_cons (al_cons al_nil)))) (g_tup rfl (gs_cons (g_name 3 nd) (gs_cons (g_name 4 nd) gs_nil)) (bl_cons (bl_cons bl_nil))))
 (ss_one (s_ret (Γ' := [0, 0, 0, 0, 0]) rfl (e_fn c_reach hr (by decide) (takes_of rfl rfl rfl rfl) (a_cons (e_un (n := 0) un_neg ud_neg (e_var 4)) (a_cons (e_var 3) a_nil)) (al_cons (al_cons al_nil)))))))
abbrev st_lower_planned : Stmt := top 17
theorem sc_lower_planned : FnScope ["modulus", "length"] ["modulus", "length"] (defScope st_lower_planned) := ⟨rfl, rfl, rfl, by decide +kernel, rfl, by decide +kernel, by decide +kernel⟩
theorem ok_lower_planned {P : Program} {w : World} {K : PySem.W.Frag} {mg : Str → Option Value} {base : Heap} {fA : Addr} {fd : FuncData} {dvs : List V} {kws : List (Str × V)} (t : Tx K mg)   (F : FunD K "lower_planned" "lower_planned" (defArgs st_lower_planned) (defBody st_lower_planned) (defScope st_lower_planned) dvs kws fA fd) :
    FnOk P w K mg base (L2.CX P w) 1 fA fd ["modulus", "length"] (spF ⟨K, mg, none⟩ 2 f_lower_planned 0) := by
  have nd := (sc_lower_planned).nd
  exact fn_ok (Γ := [0, 0]) (Γ' := [0, 0]) F sc_lower_planned rfl rfl (fun cdv A outer s H E hr => by
    unfold b_lower_planned
    exact (ss_one (s_ret (Γ' := [0, 0]) rfl (e_op2 (n := 0) op_fdivL od_div (e_op2 op_mulD od_mul (e_op2 op_addD od_add (e_var 1) (e_int (n := 0))) (e_var 0)) (e_int (n := 0))))))
abbrev st__law_cell : Stmt := top 19
theorem sc__law_cell : FnScope ["script", "k"] ["script", "k"] (defScope st__law_cell) := ⟨rfl, rfl, rfl, by decide +kernel, rfl, by decide +kernel, by decide +kernel⟩
theorem ok__law_cell {P : Program} {w : World} {K : PySem.W.Frag} {mg : Str → Option Value} {base : Heap} {fA : Addr} {fd : FuncData} {dvs : List V} {kws : List (Str × V)} (t : Tx K mg)   (F : FunD K "_law_cell" "_law_cell" (defArgs st__law_cell) (defBody st__law_cell) (defScope st__law_cell) dvs kws fA fd) :
    FnOk P w K mg base (L2.CX P w) 1 fA fd ["script", "k"] (spF ⟨K, mg, none⟩ 2 f__law_cell 0) := by
  have nd := (sc__law_cell).nd
  exact fn_ok (Γ := [0, 0]) (Γ' := [0, 0]) F sc__law_cell rfl rfl (fun cdv A outer s H E hr => by
    unfold b__law_cell
    exact (ss_cons (s_if (Γ' := [0, 0]) rfl (q_cmp op_lt opd_B0 (e_var 1) (e_len (n := 0) t.blt.len (a_cons (e_var 0) a_nil)) (nomark _))
 (ss_one (s_ret (Γ' := [0, 0]) rfl (e_int' (n := 0) t.blt.int (a_cons (e_ix (e_var 0) (e_var 1)) a_nil))))
 (ss_nil))
 (ss_one (s_ret (Γ' := [0, 0]) rfl (e_int (n := 0))))))
abbrev st__law_is_integer : Stmt := top 20
theorem sc__law_is_integer : FnScope ["actual"] ["actual"] (defScope st__law_is_integer) := ⟨rfl, rfl, rfl, by decide +kernel, rfl, by decide +kernel, by decide +kernel⟩
theorem ok__law_is_integer {P : Program} {w : World} {K : PySem.W.Frag} {mg : Str → Option Value} {base : Heap} {fA : Addr} {fd : FuncData} {dvs : List V} {kws : List (Str × V)} (t : Tx K mg)   (F : FunD K "_law_is_integer" "_law_is_integer" (defArgs st__law_is_integer) (defBody st__law_is_integer) (defScope st__law_is_integer) dvs kws fA fd) :
    FnOk P w K mg base (L2.CX P w) 1 fA fd ["actual"] (spF ⟨K, mg, none⟩ 1 f__law_is_integer 0) := by
  have nd := (sc__law_is_integer).nd
  exact fn_ok (Γ := [0]) (Γ' := [0]) F sc__law_is_integer rfl rfl (fun cdv A outer s H E hr => by
    unfold b__law_is_integer
    exact (ss_one (s_ret (Γ' := [0]) rfl (e_and (e_isTy (n := 0) t.blt.isi t.blt.int bt_int (e_var 0)) (e_one (e_not (n := 0) (e_isTy (n := 0) t.blt.isi t.blt.bool bt_bool (e_var 0))))))))
abbrev st__law_wide : Stmt := top 21
theorem sc__law_wide : FnScope ["cell", "left", "state", "number", "k"] ["cell"] (defScope st__law_wide) := ⟨rfl, rfl, rfl, by decide +kernel, rfl, by decide +kernel, by decide +kernel⟩
theorem ok__law_wide {P : Program} {w : World} {K : PySem.W.Frag} {mg : Str → Option Value} {base : Heap} {fA : Addr} {fd : FuncData} {dvs : List V} {kws : List (Str × V)} (t : Tx K mg)   (F : FunD K "_law_wide" "_law_wide" (defArgs st__law_wide) (defBody st__law_wide) (defScope st__law_wide) dvs kws fA fd) :
    FnOk P w K mg base (L2.CX P w) 1 fA fd ["cell"] (spF ⟨K, mg, none⟩ 1 f__law_wide 0) := by
  have nd := (sc__law_wide).nd
  exact fn_ok (Γ := [0, 0, 0, 0, 0]) (Γ' := [0, 0, 0, 0, 0]) F sc__law_wide rfl rfl (fun cdv A outer s H E hr => by
    unfold b__law_wide w__law_wide_0
    exact (ss_cons (s_asg (Γ' := [0, 0, 0, 0, 0]) 1 rfl nd (e_abs (n := 0) t.blt.abs (a_cons (e_var 0) a_nil)) rfl)
 (ss_cons (s_if (Γ' := [0, 0, 0, 0, 0]) rfl (q_cmp op_ge opd_B0 (e_var 1) (e_op2 (n := 0) op_pow od_pow (e_int (n := 0)) (e_int (n := 0))) (nomark _))
 (ss_one (s_ret (Γ' := [0, 0, 0, 0, 0]) rfl (e_var 1)))
 (ss_nil))
 (ss_cons (s_asg (Γ' := [0, 0, 0, 0, 0]) 2 rfl nd (e_fz (e_op2 op_addD od_add (e_op2 (n := 0) op_mod od_mod (e_int' (n := 0) t.blt.int (a_cons (e_var 1) a_nil)) (e_int (n := 0))) (e_int (n := 0)))) rfl)
 (ss_cons (s_asg (Γ' := [0, 0, 0, 0, 0]) 3 rfl nd (e_int (n := 0)) rfl)
 (ss_cons (s_for [false, false, false, false, false] rfl (passes_of rfl) rfl (i_range1 t.blt.range (e_int (n := 0))) (g_name 4 nd) (Γ' := [0, 0, 0, 0, 0]) rfl
 (ss_cons (s_asg (Γ' := [0, 0, 0, 0, 0]) 2 rfl nd (e_op2 (n := 0) op_mod od_mod (e_int' (n := 0) t.blt.int (a_cons (e_op2 op_mulD od_mul (e_var 2) (e_int (n := 0))) a_nil)) (e_int (n := 0))) rfl)
 (ss_one (s_asg (Γ' := [0, 0, 0, 0, 0]) 3 rfl nd (e_fz (e_op2 op_addD od_add (e_op2 op_mulD od_mul (e_var 3) (e_int (n := 0))) (e_op2 (n := 0) op_mod od_mod (e_int' (n := 0) t.blt.int (a_cons (e_op2 op_addD od_add (e_op2 (n := 0) op_fdivL od_div (e_var 2) (e_int (n := 0))) (e_op2 op_mulD od_mul (e_var 2) (e_int (n := 0)))) a_nil)) (e_int (n := 0))))) rfl))))
 (ss_one (s_ret (Γ' := [0, 0, 0, 0, 0]) rfl (e_var 3)))))))))
abbrev st__law_values : Stmt := top 22
theorem sc__law_values : FnScope ["cell", "count", "low", "high", "values", "left", "great", "state", "k", "number"] ["cell", "count", "low", "high"] (defScope st__law_values) := ⟨rfl, rfl, rfl, by decide +kernel, rfl, by decide +kernel, by decide +kernel⟩
theorem ok__law_values {P : Program} {w : World} {K : PySem.W.Frag} {mg : Str → Option Value} {base : Heap} {fA : Addr} {fd : FuncData} {dvs : List V} {kws : List (Str × V)} (t : Tx K mg)   (F : FunD K "_law_values" "_law_values" (defArgs st__law_values) (defBody st__law_values) (defScope st__law_values) dvs kws fA fd) :
    FnOk P w K mg base (L2.CX P w) 1 fA fd ["cell", "count", "low", "high"] (spF ⟨K, mg, none⟩ 4 f__law_values 1) := by
  have nd := (sc__law_values).nd
  exact fn_ok (Γ := [0, 0, 0, 0, 0, 0, 0, 0, 0, 0]) (Γ' := [0, 0, 0, 0, 0, 0, 0, 0, 0, 0]) F sc__law_values rfl rfl (fun cdv A outer s H E hr => by
    unfold b__law_values w__law_values_0
    exact (ss_cons (s_asg (Γ' := [0, 0, 0, 0, 1, 0, 0, 0, 0, 0]) 4 rfl nd (e_lst a_nil) rfl)
 (ss_cons (s_asg (Γ' := [0, 0, 0, 0, 1, 0, 0, 0, 0, 0]) 5 rfl nd (e_abs (n := 0) t.blt.abs (a_cons (e_var 0) a_nil)) rfl)
 (ss_cons (s_asg (Γ' := [0, 0, 0, 0, 1, 0, 0, 0, 0, 0]) 6 rfl nd (e_cmp (n := 0) op_ge opd_B0 (e_var 5) (e_op2 (n := 0) op_pow od_pow (e_int (n := 0)) (e_int (n := 0))) (nomark _)) rfl)
 (ss_cons (s_asg (Γ' := [0, 0, 0, 0, 1, 0, 0, 0, 0, 0]) 7 rfl nd (e_fz (e_op2 op_addD od_add (e_op2 (n := 0) op_mod od_mod (e_int' (n := 0) t.blt.int (a_cons (e_var 5) a_nil)) (e_int (n := 0))) (e_int (n := 0)))) rfl)
 (ss_cons (s_for [false, false, false, false, true, false, false, false, false, false] rfl (passes_of rfl) rfl (i_range1 t.blt.range (e_var 1)) (g_name 8 nd) (Γ' := [0, 0, 0, 0, 1, 0, 0, 0, 0, 0]) rfl
 (ss_cons (s_asg (Γ' := [0, 0, 0, 0, 1, 0, 0, 0, 0, 0]) 7 rfl nd (e_op2 (n := 0) op_mod od_mod (e_int' (n := 0) t.blt.int (a_cons (e_op2 op_mulD od_mul (e_var 7) (e_int (n := 0))) a_nil)) (e_int (n := 0))) rfl)
 (ss_cons (s_asg (Γ' := [0, 0, 0, 0, 1, 0, 0, 0, 0, 0]) 9 rfl nd (e_int' (n := 0) t.blt.int (a_cons (e_op2 (n := 0) op_fdivL od_div (e_op2 op_mulD od_mul (e_op2 op_mulD od_mul (e_var 7) (e_var 7)) (e_var 7)) (e_int (n := 0))) a_nil)) rfl)
 (ss_cons (s_if (Γ' := [0, 0, 0, 0, 1, 0, 0, 0, 0, 0]) rfl (q_w (w_and (q_tru (e_var 6)) (w_and1 (q_cmp op_gt opd_B0 (e_var 5) (e_int (n := 0)) (nomark _)))))
 (ss_cons (s_asg (Γ' := [0, 0, 0, 0, 1, 0, 0, 0, 0, 0]) 9 rfl nd (e_int' (n := 0) t.blt.int (a_cons (e_var 5) a_nil)) rfl)
 (ss_one (s_asg (Γ' := [0, 0, 0, 0, 1, 0, 0, 0, 0, 0]) 5 rfl nd (e_op2 (n := 0) op_fdivL od_div (e_var 5) (e_op2 op_addD od_add (e_op2 (n := 0) op_sub od_sub (e_var 3) (e_var 2)) (e_int (n := 0)))) rfl)))
 (ss_nil))
 (ss_one (s_app 4 rfl (e_fz (e_op2 op_addD od_add (e_var 2) (e_op2 (n := 0) op_mod od_mod (e_int' (n := 0) t.blt.int (a_cons (e_var 9) a_nil)) (e_op2 op_addD od_add (e_op2 (n := 0) op_sub od_sub (e_var 3) (e_var 2)) (e_int (n := 0))))))))))))
 (ss_one (s_retO (Γ' := [0, 0, 0, 0, 0, 0, 0, 0, 0, 0]) 4 rfl))))))))
abbrev st__law_centred : Stmt := top 23
theorem sc__law_centred : FnScope ["value", "modulus", "left"] ["value", "modulus"] (defScope st__law_centred) := ⟨rfl, rfl, rfl, by decide +kernel, rfl, by decide +kernel, by decide +kernel⟩
theorem ok__law_centred {P : Program} {w : World} {K : PySem.W.Frag} {mg : Str → Option Value} {base : Heap} {fA : Addr} {fd : FuncData} {dvs : List V} {kws : List (Str × V)} (t : Tx K mg)   (F : FunD K "_law_centred" "_law_centred" (defArgs st__law_centred) (defBody st__law_centred) (defScope st__law_centred) dvs kws fA fd) :
    FnOk P w K mg base (L2.CX P w) 1 fA fd ["value", "modulus"] (spF ⟨K, mg, none⟩ 2 f__law_centred 0) := by
  have nd := (sc__law_centred).nd
  exact fn_ok (Γ := [0, 0, 0]) (Γ' := [0, 0, 0]) F sc__law_centred rfl rfl (fun cdv A outer s H E hr => by
    unfold b__law_centred
    exact (ss_cons (s_asg (Γ' := [0, 0, 0]) 2 rfl nd (e_op2 (n := 0) op_mod od_mod (e_int' (n := 0) t.blt.int (a_cons (e_var 0) a_nil)) (e_var 1)) rfl)
 (ss_cons (s_if (Γ' := [0, 0, 0]) rfl (q_cmp op_gt opd_B0 (e_op2 op_mulD od_mul (e_int (n := 0)) (e_var 2)) (e_var 1) (nomark _))
 (ss_one (s_asg (Γ' := [0, 0, 0]) 2 rfl nd (e_op2 (n := 0) op_sub od_sub (e_var 2) (e_var 1)) rfl))
 (ss_nil))
 (ss_one (s_ret (Γ' := [0, 0, 0]) rfl (e_var 2))))))
abbrev st__law_is_row : Stmt := top 24
theorem sc__law_is_row : FnScope ["found", "due", "k"] ["found", "due"] (defScope st__law_is_row) := ⟨rfl, rfl, rfl, by decide +kernel, rfl, by decide +kernel, by decide +kernel⟩
theorem ok__law_is_row {P : Program} {w : World} {K : PySem.W.Frag} {mg : Str → Option Value} {base : Heap} {fA : Addr} {fd : FuncData} {dvs : List V} {kws : List (Str × V)} (t : Tx K mg)  (c__law_is_integer : FnS P w K mg base "_law_is_integer" 1 1 f__law_is_integer 0 []) (F : FunD K "_law_is_row" "_law_is_row" (defArgs st__law_is_row) (defBody st__law_is_row) (defScope st__law_is_row) dvs kws fA fd) :
    FnOk P w K mg base (L2.CX P w) 2 fA fd ["found", "due"] (spF ⟨K, mg, none⟩ 2 f__law_is_row 0) := by
  have nd := (sc__law_is_row).nd
  exact fn_ok (Γ := [0, 0, 0]) (Γ' := [0, 0, 0]) F sc__law_is_row rfl rfl (fun cdv A outer s H E hr => by
    unfold b__law_is_row w__law_is_row_0
    exact (ss_cons (s_if (Γ' := [0, 0, 0]) rfl (q_w (w_or (q_not (q_tru (e_isTy (n := 0) t.blt.isi t.blt.list bt_list (e_var 0)))) (w_or1 (q_cmp (op_neD hr.units) ob_ne (e_len (n := 0) t.blt.len (a_cons (e_var 0) a_nil)) (e_len (n := 0) t.blt.len (a_cons (e_var 1) a_nil)) (nomark _)))))
 (ss_one (s_ret (Γ' := [0, 0, 0]) rfl (e_bl (n := 0))))
 (ss_nil))
 (ss_cons (s_for [false, false, false] rfl (passes_of rfl) rfl (i_range1 t.blt.range (e_len (n := 0) t.blt.len (a_cons (e_var 1) a_nil))) (g_name 2 nd) (Γ' := [0, 0, 0]) rfl
 (ss_one (s_if (Γ' := [0, 0, 0]) rfl (q_w (w_or (q_not (q_tru (e_fn c__law_is_integer hr (by decide) (takes_of rfl rfl rfl rfl) (a_cons (e_ix (e_var 0) (e_var 2)) a_nil) (al_cons al_nil)))) (w_or1 (q_cmp (op_neD hr.units) ob_ne (e_ix (e_var 0) (e_var 2)) (e_ix (e_var 1) (e_var 2)) (nomark _)))))
 (ss_one (s_ret (Γ' := [0, 0, 0]) rfl (e_bl (n := 0))))
 (ss_nil))))
 (ss_one (s_ret (Γ' := [0, 0, 0]) rfl (e_bl (n := 0)))))))
abbrev st__law_round : Stmt := top 25
theorem sc__law_round : FnScope ["value", "divisor"] ["value", "divisor"] (defScope st__law_round) := ⟨rfl, rfl, rfl, by decide +kernel, rfl, by decide +kernel, by decide +kernel⟩
theorem ok__law_round {P : Program} {w : World} {K : PySem.W.Frag} {mg : Str → Option Value} {base : Heap} {fA : Addr} {fd : FuncData} {dvs : List V} {kws : List (Str × V)} (t : Tx K mg)   (F : FunD K "_law_round" "_law_round" (defArgs st__law_round) (defBody st__law_round) (defScope st__law_round) dvs kws fA fd) :
    FnOk P w K mg base (L2.CX P w) 1 fA fd ["value", "divisor"] (spF ⟨K, mg, none⟩ 2 f__law_round 0) := by
  have nd := (sc__law_round).nd
  exact fn_ok (Γ := [0, 0]) (Γ' := [0, 0]) F sc__law_round rfl rfl (fun cdv A outer s H E hr => by
    unfold b__law_round
    exact (ss_one (s_ret (Γ' := [0, 0]) rfl (e_op2 (n := 0) op_fdivL od_div (e_op2 op_addD od_add (e_op2 op_mulD od_mul (e_int (n := 0)) (e_var 0)) (e_var 1)) (e_op2 op_mulD od_mul (e_int (n := 0)) (e_var 1))))))
abbrev st__law_refuses : Stmt := top 26
theorem sc__law_refuses : FnScope ["modulus", "row", "lower", "turn", "refused", "e"] ["modulus", "row", "lower"] (defScope st__law_refuses) := ⟨rfl, rfl, rfl, by decide +kernel, rfl, by decide +kernel, by decide +kernel⟩
theorem ok__law_refuses {P : Program} {w : World} {K : PySem.W.Frag} {mg : Str → Option Value} {base : Heap} {fA : Addr} {fd : FuncData} {dvs : List V} {kws : List (Str × V)} (t : Tx K mg) {C_Malformed : Addr} (g_Malformed : mg "Malformed" = some (.ref C_Malformed)) {C_OutOfRange : Addr} (g_OutOfRange : mg "OutOfRange" = some (.ref C_OutOfRange)) {C_PurseError : Addr} (g_PurseError : mg "PurseError" = some (.ref C_PurseError)) (c_row_lower : FnS P w K mg base "row_lower" 4 3 f_row_lower 0 []) (c_row_slips : FnS P w K mg base "row_slips" 4 3 f_row_slips 0 []) (F : FunD K "_law_refuses" "_law_refuses" (defArgs st__law_refuses) (defBody st__law_refuses) (defScope st__law_refuses) dvs kws fA fd) :
    FnOk P w K mg base (L2.CX P w) 5 fA fd ["modulus", "row", "lower"] (spF ⟨K, mg, none⟩ 3 f__law_refuses 0) := by
  have nd := (sc__law_refuses).nd
  exact fn_ok (Γ := [0, 0, 0, 0, 0, 0]) (Γ' := [0, 0, 0, 0, 0, 0]) F sc__law_refuses rfl rfl (fun cdv A outer s H E hr => by
    unfold b__law_refuses w__law_refuses_0
    exact (ss_cons (s_for [false, false, false, false, false, false] rfl (passes_of rfl) rfl (i_range1 t.blt.range (e_int (n := 0))) (g_name 3 nd) (Γ' := [0, 0, 0, 0, 0, 0]) rfl
 (ss_cons (s_asg (Γ' := [0, 0, 0, 0, 0, 0]) 4 rfl nd (e_bl (n := 0)) rfl)
 (ss_cons (s_tryAs (Γh := [0, 0, 0, 0, 0, 0]) (Γh' := [0, 0, 0, 0, 0, 0]) (Γ1 := [0, 0, 0, 0, 0, 0]) (Γ' := [0, 0, 0, 0, 0, 0]) [false, false, false, false, false, false] .range 5 t.er rfl rfl rfl nd g_OutOfRange rfl rfl (takes_of rfl rfl rfl rfl) rfl rfl rfl rfl
 (fun W pn xe tk hp => (ss_one (s_if (Γ' := [0, 0, 0, 0, 0, 0]) rfl (q_cmp (op_eqD hr.units) ob_eq (e_var 3) (e_int (n := 0)) (nomark _))
 (ss_one (s_expr rfl (e_fn c_row_lower hr (by decide) tk (a_cons (e_var 0) (a_cons (e_var 1) (a_cons (e_var 2) a_nil))) (al_cons (al_cons (al_cons al_nil))))))
 (ss_one (s_expr rfl (e_fn c_row_slips hr (by decide) tk (a_cons (e_var 0) (a_cons (e_var 1) (a_cons (e_var 2) a_nil))) (al_cons (al_cons (al_cons al_nil)))))))))
 (fun a oe pn er AE ho gE hz hf => (ss_one (s_asg (Γ' := [0, 0, 0, 0, 0, 0]) 4 rfl nd (e_and (e_isEr (n := 0) .purse 5 t.er hz hf gE ho g_PurseError rfl rfl t.blt.isi) (e_one (e_not (n := 0) (e_isEr (n := 0) .malformed 5 t.er hz hf gE ho g_Malformed rfl rfl t.blt.isi)))) rfl))))
 (ss_one (s_if (Γ' := [0, 0, 0, 0, 0, 0]) rfl (q_not (q_tru (e_var 4)))
 (ss_one (s_ret (Γ' := [0, 0, 0, 0, 0, 0]) rfl (e_bl (n := 0))))
 (ss_nil))))))
 (ss_one (s_ret (Γ' := [0, 0, 0, 0, 0, 0]) rfl (e_bl (n := 0))))))
abbrev st__law_is_lowered : Stmt := top 27
theorem sc__law_is_lowered : FnScope ["modulus", "row", "lower", "given", "found", "due", "slips", "last", "told", "number"] ["modulus", "row", "lower"] (defScope st__law_is_lowered) := ⟨rfl, rfl, rfl, by decide +kernel, rfl, by decide +kernel, by decide +kernel⟩
theorem ok__law_is_lowered {P : Program} {w : World} {K : PySem.W.Frag} {mg : Str → Option Value} {base : Heap} {fA : Addr} {fd : FuncData} {dvs : List V} {kws : List (Str × V)} (t : Tx K mg)  (c_row_lower : FnS P w K mg base "row_lower" 4 3 f_row_lower 0 []) (c__law_centred : FnS P w K mg base "_law_centred" 1 2 f__law_centred 0 []) (c__law_round : FnS P w K mg base "_law_round" 1 2 f__law_round 0 []) (c__law_is_row : FnS P w K mg base "_law_is_row" 2 2 f__law_is_row 0 []) (c__law_is_integer : FnS P w K mg base "_law_is_integer" 1 1 f__law_is_integer 0 []) (c_row_slips : FnS P w K mg base "row_slips" 4 3 f_row_slips 0 []) (F : FunD K "_law_is_lowered" "_law_is_lowered" (defArgs st__law_is_lowered) (defBody st__law_is_lowered) (defScope st__law_is_lowered) dvs kws fA fd) :
    FnOk P w K mg base (L2.CX P w) 5 fA fd ["modulus", "row", "lower"] (spF ⟨K, mg, none⟩ 3 f__law_is_lowered 0) := by
  have nd := (sc__law_is_lowered).nd
  exact fn_ok (Γ := [0, 0, 0, 0, 0, 0, 0, 0, 0, 0]) (Γ' := [0, 0, 0, 0, 0, 0, 0, 0, 0, 0]) F sc__law_is_lowered rfl rfl (fun cdv A outer s H E hr => by
    unfold b__law_is_lowered t__law_is_lowered_0 c__law_is_lowered_1 c__law_is_lowered_0
    exact (ss_cons (s_asg (Γ' := [0, 0, 0, 0, 0, 0, 0, 0, 0, 0]) 3 rfl nd (e_tup (n := 0) (a_cons (e_list t.blt.list (a_cons (e_ix (e_var 1) (e_int (n := 0))) a_nil)) (a_cons (e_ix (e_var 1) (e_int (n := 0))) a_nil))) rfl)
 (ss_cons (s_asg (Γ' := [0, 0, 0, 0, 0, 0, 0, 0, 0, 0]) 4 rfl nd (e_fn c_row_lower hr (by decide) (takes_of rfl rfl rfl rfl) (a_cons (e_var 0) (a_cons (e_var 3) (a_cons (e_var 2) a_nil))) (al_cons (al_cons (al_cons al_nil)))) rfl)
 (ss_cons (s_fz [false, false, false, false, false, false, false, false, false, false] rfl (Γ1 := [0, 0, 0, 0, 0, 1, 0, 0, 0, 0]) (Γ2 := [0, 0, 0, 0, 0, 0, 0, 0, 0, 0]) (s_asgC 5 rfl rfl nd (i_seq (e_ix (e_var 1) (e_int (n := 0)))) (blkOk_by (own := [(("number" : Str), 9)]) (by kernel_rfl)) (by decide) (fun _ _ _ _ _ => (g_name 9 nd)) (fun _ _ _ _ _ => t_nil) (fun _ _ _ _ _ => (e_fn c__law_centred hr (by decide) takes0 (a_cons (e_fn c__law_round hr (by decide) takes0 (a_cons (e_op2 op_mulD od_mul (e_var 2) (e_var 9)) (a_cons (e_var 0) a_nil)) (al_cons (al_cons al_nil))) (a_cons (e_var 2) a_nil)) (al_cons (al_cons al_nil)))) (Γ' := [0, 0, 0, 0, 0, 1, 0, 0, 0, 0]) rfl (Or.inl (by decide))))
 (ss_cons (s_if (Γ' := [0, 0, 0, 0, 0, 0, 0, 0, 0, 0]) rfl (q_w (w_or (q_not (q_tru (e_isTy (n := 0) t.blt.isi t.blt.tuple bt_tuple (e_var 4)))) (w_or (q_cmp (op_neD hr.units) ob_ne (e_len (n := 0) t.blt.len (a_cons (e_var 4) a_nil)) (e_int (n := 0)) (nomark _)) (w_or1 (q_not (q_tru (e_fn c__law_is_row hr (by decide) (takes_of rfl rfl rfl rfl) (a_cons (e_ix (e_var 4) (e_int (n := 0))) (a_cons (e_var 5) a_nil)) (al_cons (al_cons al_nil)))))))))
 (ss_one (s_ret (Γ' := [0, 0, 0, 0, 0, 0, 0, 0, 0, 0]) rfl (e_bl (n := 0))))
 (ss_nil))
 (ss_cons (s_if (Γ' := [0, 0, 0, 0, 0, 0, 0, 0, 0, 0]) rfl (q_w (w_or (q_not (q_tru (e_fn c__law_is_integer hr (by decide) (takes_of rfl rfl rfl rfl) (a_cons (e_ix (e_var 4) (e_int (n := 0))) a_nil) (al_cons al_nil)))) (w_or1 (q_cmp (op_neD hr.units) ob_ne (e_ix (e_var 4) (e_int (n := 0))) (e_fn c__law_centred hr (by decide) (takes_of rfl rfl rfl rfl) (a_cons (e_fn c__law_round hr (by decide) (takes_of rfl rfl rfl rfl) (a_cons (e_op2 op_mulD od_mul (e_var 2) (e_ix (e_var 1) (e_int (n := 0)))) (a_cons (e_var 0) a_nil)) (al_cons (al_cons al_nil))) (a_cons (e_var 2) a_nil)) (al_cons (al_cons al_nil))) (nomark _)))))
 (ss_one (s_ret (Γ' := [0, 0, 0, 0, 0, 0, 0, 0, 0, 0]) rfl (e_bl (n := 0))))
 (ss_nil))
 (ss_cons (s_fz [false, false, false, false, false, false, false, false, false, false] rfl (Γ1 := [0, 0, 0, 0, 0, 0, 1, 0, 0, 0]) (Γ2 := [0, 0, 0, 0, 0, 0, 0, 0, 0, 0]) (s_asgC 6 rfl rfl nd (i_seq (e_ix (e_var 1) (e_int (n := 0)))) (blkOk_by (own := [(("number" : Str), 9)]) (by kernel_rfl)) (by decide) (fun _ _ _ _ _ => (g_name 9 nd)) (fun _ _ _ _ _ => t_nil) (fun _ _ _ _ _ => (e_op2 (n := 0) op_sub od_sub (e_op2 op_mulD od_mul (e_var 2) (e_var 9)) (e_op2 op_mulD od_mul (e_var 0) (e_fn c__law_round hr (by decide) takes0 (a_cons (e_op2 op_mulD od_mul (e_var 2) (e_var 9)) (a_cons (e_var 0) a_nil)) (al_cons (al_cons al_nil)))))) (Γ' := [0, 0, 0, 0, 0, 0, 1, 0, 0, 0]) rfl (Or.inl (by decide))))
 (ss_cons (s_asg (Γ' := [0, 0, 0, 0, 0, 0, 0, 0, 0, 0]) 7 rfl nd (e_op2 (n := 0) op_sub od_sub (e_op2 op_mulD od_mul (e_var 2) (e_ix (e_var 1) (e_int (n := 0)))) (e_op2 op_mulD od_mul (e_var 0) (e_fn c__law_round hr (by decide) (takes_of rfl rfl rfl rfl) (a_cons (e_op2 op_mulD od_mul (e_var 2) (e_ix (e_var 1) (e_int (n := 0)))) (a_cons (e_var 0) a_nil)) (al_cons (al_cons al_nil))))) rfl)
 (ss_cons (s_asg (Γ' := [0, 0, 0, 0, 0, 0, 0, 0, 0, 0]) 8 rfl nd (e_fn c_row_slips hr (by decide) (takes_of rfl rfl rfl rfl) (a_cons (e_var 0) (a_cons (e_var 3) (a_cons (e_var 2) a_nil))) (al_cons (al_cons (al_cons al_nil)))) rfl)
 (ss_cons (s_if (Γ' := [0, 0, 0, 0, 0, 0, 0, 0, 0, 0]) rfl (q_w (w_or (q_not (q_tru (e_isTy (n := 0) t.blt.isi t.blt.tuple bt_tuple (e_var 8)))) (w_or (q_cmp (op_neD hr.units) ob_ne (e_len (n := 0) t.blt.len (a_cons (e_var 8) a_nil)) (e_int (n := 0)) (nomark _)) (w_or1 (q_not (q_tru (e_fn c__law_is_row hr (by decide) (takes_of rfl rfl rfl rfl) (a_cons (e_ix (e_var 8) (e_int (n := 0))) (a_cons (e_var 6) a_nil)) (al_cons (al_cons al_nil)))))))))
 (ss_one (s_ret (Γ' := [0, 0, 0, 0, 0, 0, 0, 0, 0, 0]) rfl (e_bl (n := 0))))
 (ss_nil))
 (ss_one (s_ret (Γ' := [0, 0, 0, 0, 0, 0, 0, 0, 0, 0]) rfl (e_and (e_fn c__law_is_integer hr (by decide) (takes_of rfl rfl rfl rfl) (a_cons (e_ix (e_var 8) (e_int (n := 0))) a_nil) (al_cons al_nil)) (e_and (e_cmp (n := 0) (op_eqD hr.units) ob_eq (e_ix (e_var 8) (e_int (n := 0))) (e_var 7) (nomark _)) (e_one (e_cmp (n := 0) (op_eqD hr.units) ob_eq (e_var 3) (e_var 1) (nomark _)))))))))))))))))
abbrev st__law_drift : Stmt := top 28
theorem sc__law_drift : FnScope ["modulus", "row", "lower", "number", "z", "y", "k"] ["modulus", "row", "lower", "number"] (defScope st__law_drift) := ⟨rfl, rfl, rfl, by decide +kernel, rfl, by decide +kernel, by decide +kernel⟩
theorem ok__law_drift {P : Program} {w : World} {K : PySem.W.Frag} {mg : Str → Option Value} {base : Heap} {fA : Addr} {fd : FuncData} {dvs : List V} {kws : List (Str × V)} (t : Tx K mg)  (c__law_round : FnS P w K mg base "_law_round" 1 2 f__law_round 0 []) (F : FunD K "_law_drift" "_law_drift" (defArgs st__law_drift) (defBody st__law_drift) (defScope st__law_drift) dvs kws fA fd) :
    FnOk P w K mg base (L2.CX P w) 2 fA fd ["modulus", "row", "lower", "number"] (spF ⟨K, mg, none⟩ 4 f__law_drift 0) := by
  have nd := (sc__law_drift).nd
  exact fn_ok (Γ := [0, 0, 0, 0, 0, 0, 0]) (Γ' := [0, 0, 0, 0, 0, 0, 0]) F sc__law_drift rfl rfl (fun cdv A outer s H E hr => by
    unfold b__law_drift w__law_drift_0
    exact (ss_cons (s_asg (Γ' := [0, 0, 0, 0, 0, 0, 0]) 4 rfl nd (e_ix (e_var 1) (e_int (n := 0))) rfl)
 (ss_cons (s_asg (Γ' := [0, 0, 0, 0, 0, 0, 0]) 5 rfl nd (e_fn c__law_round hr (by decide) (takes_of rfl rfl rfl rfl) (a_cons (e_op2 op_mulD od_mul (e_var 2) (e_ix (e_var 1) (e_int (n := 0)))) (a_cons (e_var 0) a_nil)) (al_cons (al_cons al_nil))) rfl)
 (ss_cons (s_for [false, false, false, false, false, false, false] rfl (passes_of rfl) rfl (i_range1 t.blt.range (e_len (n := 0) t.blt.len (a_cons (e_ix (e_var 1) (e_int (n := 0))) a_nil))) (g_name 6 nd) (Γ' := [0, 0, 0, 0, 0, 0, 0]) rfl
 (ss_one (s_if (Γ' := [0, 0, 0, 0, 0, 0, 0]) rfl (q_cmp (op_eqD hr.units) ob_eq (e_op2 (n := 0) op_and od_and (e_op2 (n := 0) op_shr od_shr (e_var 3) (e_var 6)) (e_int (n := 0))) (e_int (n := 0)) (nomark _))
 (ss_cons (s_aug 4 rfl nd iop_sub od_sub (e_ix (e_ix (e_var 1) (e_int (n := 0))) (e_var 6)))
 (ss_one (s_aug 5 rfl nd iop_sub od_sub (e_fn c__law_round hr (by decide) (takes_of rfl rfl rfl rfl) (a_cons (e_op2 op_mulD od_mul (e_var 2) (e_ix (e_ix (e_var 1) (e_int (n := 0))) (e_var 6))) (a_cons (e_var 0) a_nil)) (al_cons (al_cons al_nil))))))
 (ss_nil))))
 (ss_one (s_ret (Γ' := [0, 0, 0, 0, 0, 0, 0]) rfl (e_op2 (n := 0) op_sub od_sub (e_op2 op_mulD od_mul (e_var 0) (e_var 5)) (e_op2 op_mulD od_mul (e_var 2) (e_var 4)))))))))
abbrev st__law_told : Stmt := top 29
theorem sc__law_told : FnScope ["modulus", "row", "lower", "number", "slips", "last", "told", "k"] ["modulus", "row", "lower", "number"] (defScope st__law_told) := ⟨rfl, rfl, rfl, by decide +kernel, rfl, by decide +kernel, by decide +kernel⟩
theorem ok__law_told {P : Program} {w : World} {K : PySem.W.Frag} {mg : Str → Option Value} {base : Heap} {fA : Addr} {fd : FuncData} {dvs : List V} {kws : List (Str × V)} (t : Tx K mg)  (c_row_slips : FnS P w K mg base "row_slips" 4 3 f_row_slips 0 []) (F : FunD K "_law_told" "_law_told" (defArgs st__law_told) (defBody st__law_told) (defScope st__law_told) dvs kws fA fd) :
    FnOk P w K mg base (L2.CX P w) 5 fA fd ["modulus", "row", "lower", "number"] (spF ⟨K, mg, none⟩ 4 f__law_told 0) := by
  have nd := (sc__law_told).nd
  exact fn_ok (Γ := [0, 0, 0, 0, 0, 0, 0, 0]) (Γ' := [0, 0, 0, 0, 0, 0, 0, 0]) F sc__law_told rfl rfl (fun cdv A outer s H E hr => by
    unfold b__law_told w__law_told_0
    exact (ss_cons (s_asgT rfl (e_fn c_row_slips hr (by decide) (takes_of rfl rfl rfl rfl) (a_cons (e_var 0) (a_cons (e_var 1) (a_cons (e_var 2) a_nil))) (al_cons (al_cons (al_cons al_nil)))) (g_tup rfl (gs_cons (g_name 4 nd) (gs_cons (g_name 5 nd) gs_nil)) (bl_cons (bl_cons bl_nil))))
 (ss_cons (s_asg (Γ' := [0, 0, 0, 0, 0, 0, 0, 0]) 6 rfl nd (e_op2 (n := 0) op_sub od_sub (e_int (n := 0)) (e_var 5)) rfl)
 (ss_cons (s_for [false, false, false, false, false, false, false, false] rfl (passes_of rfl) rfl (i_range1 t.blt.range (e_len (n := 0) t.blt.len (a_cons (e_var 4) a_nil))) (g_name 7 nd) (Γ' := [0, 0, 0, 0, 0, 0, 0, 0]) rfl
 (ss_one (s_if (Γ' := [0, 0, 0, 0, 0, 0, 0, 0]) rfl (q_cmp (op_eqD hr.units) ob_eq (e_op2 (n := 0) op_and od_and (e_op2 (n := 0) op_shr od_shr (e_var 3) (e_var 7)) (e_int (n := 0))) (e_int (n := 0)) (nomark _))
 (ss_one (s_aug 6 rfl nd iop_add od_addI (e_ix (e_var 4) (e_var 7))))
 (ss_nil))))
 (ss_one (s_ret (Γ' := [0, 0, 0, 0, 0, 0, 0, 0]) rfl (e_var 6)))))))
abbrev st__law_asks : Stmt := top 30
theorem sc__law_asks : FnScope ["modulus", "row", "lower", "greatest", "number", "drift", "seen", "planned"] ["modulus", "row", "lower"] (defScope st__law_asks) := ⟨rfl, rfl, rfl, by decide +kernel, rfl, by decide +kernel, by decide +kernel⟩
theorem ok__law_asks {P : Program} {w : World} {K : PySem.W.Frag} {mg : Str → Option Value} {base : Heap} {fA : Addr} {fd : FuncData} {dvs : List V} {kws : List (Str × V)} (t : Tx K mg)  (c__law_drift : FnS P w K mg base "_law_drift" 2 4 f__law_drift 0 []) (c__law_told : FnS P w K mg base "_law_told" 5 4 f__law_told 0 []) (c_lower_seen : FnS P w K mg base "lower_seen" 5 3 f_lower_seen 0 []) (c_lower_planned : FnS P w K mg base "lower_planned" 1 2 f_lower_planned 0 []) (c__law_is_integer : FnS P w K mg base "_law_is_integer" 1 1 f__law_is_integer 0 []) (F : FunD K "_law_asks" "_law_asks" (defArgs st__law_asks) (defBody st__law_asks) (defScope st__law_asks) dvs kws fA fd) :
    FnOk P w K mg base (L2.CX P w) 6 fA fd ["modulus", "row", "lower"] (spF ⟨K, mg, none⟩ 3 f__law_asks 0) := by
  have nd := (sc__law_asks).nd
  exact fn_ok (Γ := [0, 0, 0, 0, 0, 0, 0, 0]) (Γ' := [0, 0, 0, 0, 0, 0, 0, 0]) F sc__law_asks rfl rfl (fun cdv A outer s H E hr => by
    unfold b__law_asks w__law_asks_0
    exact (ss_cons (s_asg (Γ' := [0, 0, 0, 0, 0, 0, 0, 0]) 3 rfl nd (e_int (n := 0)) rfl)
 (ss_cons (s_for [false, false, false, false, false, false, false, false] rfl (passes_of rfl) rfl (i_range1 t.blt.range (e_op2 (n := 0) op_shlW od_shl (e_int (n := 0)) (e_len (n := 0) t.blt.len (a_cons (e_ix (e_var 1) (e_int (n := 0))) a_nil)))) (g_name 4 nd) (Γ' := [0, 0, 0, 0, 0, 0, 0, 0]) rfl
 (ss_cons (s_asg (Γ' := [0, 0, 0, 0, 0, 0, 0, 0]) 5 rfl nd (e_fn c__law_drift hr (by decide) (takes_of rfl rfl rfl rfl) (a_cons (e_var 0) (a_cons (e_var 1) (a_cons (e_var 2) (a_cons (e_var 4) a_nil)))) (al_cons (al_cons (al_cons (al_cons al_nil))))) rfl)
 (ss_cons (s_if (Γ' := [0, 0, 0, 0, 0, 0, 0, 0]) rfl (q_cmp (op_neD hr.units) ob_ne (e_var 5) (e_fn c__law_told hr (by decide) (takes_of rfl rfl rfl rfl) (a_cons (e_var 0) (a_cons (e_var 1) (a_cons (e_var 2) (a_cons (e_var 4) a_nil)))) (al_cons (al_cons (al_cons (al_cons al_nil))))) (nomark _))
 (ss_one (s_ret (Γ' := [0, 0, 0, 0, 0, 0, 0, 0]) rfl (e_bl (n := 0))))
 (ss_nil))
 (ss_one (s_asg (Γ' := [0, 0, 0, 0, 0, 0, 0, 0]) 3 rfl nd (e_max2 (n := 0) t.blt.max (a_cons (e_var 3) (a_cons (e_abs (n := 0) t.blt.abs (a_cons (e_var 5) a_nil)) a_nil))) rfl)))))
 (ss_cons (s_asg (Γ' := [0, 0, 0, 0, 0, 0, 0, 0]) 6 rfl nd (e_fn c_lower_seen hr (by decide) (takes_of rfl rfl rfl rfl) (a_cons (e_var 0) (a_cons (e_var 1) (a_cons (e_var 2) a_nil))) (al_cons (al_cons (al_cons al_nil)))) rfl)
 (ss_cons (s_asg (Γ' := [0, 0, 0, 0, 0, 0, 0, 0]) 7 rfl nd (e_fn c_lower_planned hr (by decide) (takes_of rfl rfl rfl rfl) (a_cons (e_var 0) (a_cons (e_len (n := 0) t.blt.len (a_cons (e_ix (e_var 1) (e_int (n := 0))) a_nil)) a_nil)) (al_cons (al_cons al_nil))) rfl)
 (ss_cons (s_if (Γ' := [0, 0, 0, 0, 0, 0, 0, 0]) rfl (q_w (w_or (q_not (q_tru (e_fn c__law_is_integer hr (by decide) (takes_of rfl rfl rfl rfl) (a_cons (e_var 6) a_nil) (al_cons al_nil)))) (w_or (q_not (q_tru (e_fn c__law_is_integer hr (by decide) (takes_of rfl rfl rfl rfl) (a_cons (e_var 7) a_nil) (al_cons al_nil)))) (w_or1 (q_cmp (op_neD hr.units) ob_ne (e_var 6) (e_var 3) (nomark _))))))
 (ss_one (s_ret (Γ' := [0, 0, 0, 0, 0, 0, 0, 0]) rfl (e_bl (n := 0))))
 (ss_nil))
 (ss_one (s_ret (Γ' := [0, 0, 0, 0, 0, 0, 0, 0]) rfl (e_and (e_cmp (n := 0) (op_eqD hr.units) ob_eq (e_var 7) (e_op2 (n := 0) op_fdivL od_div (e_op2 op_mulD od_mul (e_op2 op_addD od_add (e_len (n := 0) t.blt.len (a_cons (e_ix (e_var 1) (e_int (n := 0))) a_nil)) (e_int (n := 0))) (e_var 0)) (e_int (n := 0))) (nomark _)) (e_one (e_cmp (n := 0) op_le opd_B0 (e_var 6) (e_var 7) (nomark _))))))))))))
abbrev st__law_reaches : Stmt := top 31
theorem sc__law_reaches : FnScope ["cell", "others", "start", "greatest", "number", "total", "k", "given", "found"] ["cell"] (defScope st__law_reaches) := ⟨rfl, rfl, rfl, by decide +kernel, rfl, by decide +kernel, by decide +kernel⟩
theorem ok__law_reaches {P : Program} {w : World} {K : PySem.W.Frag} {mg : Str → Option Value} {base : Heap} {fA : Addr} {fd : FuncData} {dvs : List V} {kws : List (Str × V)} (t : Tx K mg)  (c__law_values : FnS P w K mg base "_law_values" 1 4 f__law_values 1 []) (c_reach : FnS P w K mg base "reach" 1 2 f_reach 0 []) (c__law_is_integer : FnS P w K mg base "_law_is_integer" 1 1 f__law_is_integer 0 []) (F : FunD K "_law_reaches" "_law_reaches" (defArgs st__law_reaches) (defBody st__law_reaches) (defScope st__law_reaches) dvs kws fA fd) :
    FnOk P w K mg base (L2.CX P w) 2 fA fd ["cell"] (spF ⟨K, mg, none⟩ 1 f__law_reaches 0) := by
  have nd := (sc__law_reaches).nd
  exact fn_ok (Γ := [0, 0, 0, 0, 0, 0, 0, 0, 0]) (Γ' := [0, 0, 0, 0, 0, 0, 0, 0, 0]) F sc__law_reaches rfl rfl (fun cdv A outer s H E hr => by
    unfold b__law_reaches w__law_reaches_1 w__law_reaches_0
    exact (ss_cons (s_asg (Γ' := [0, 0, 0, 0, 0, 0, 0, 0, 0]) 1 rfl nd (e_fz (e_fn c__law_values hr (by decide) (takes_of rfl rfl rfl rfl) (a_cons (e_op2 (n := 0) op_fdivL od_div (e_var 0) (e_int (n := 0))) (a_cons (e_op2 (n := 0) op_mod od_mod (e_int' (n := 0) t.blt.int (a_cons (e_var 0) a_nil)) (e_int (n := 0))) (a_cons (e_un (n := 0) un_neg ud_neg (e_int (n := 0))) (a_cons (e_int (n := 0)) a_nil)))) (al_cons (al_cons (al_cons (al_cons al_nil)))))) rfl)
 (ss_cons (s_asg (Γ' := [0, 0, 0, 0, 0, 0, 0, 0, 0]) 2 rfl nd (e_op2 (n := 0) op_sub od_sub (e_op2 (n := 0) op_mod od_mod (e_int' (n := 0) t.blt.int (a_cons (e_op2 (n := 0) op_fdivL od_div (e_var 0) (e_int (n := 0))) a_nil)) (e_int (n := 0))) (e_int (n := 0))) rfl)
 (ss_cons (s_asg (Γ' := [0, 0, 0, 0, 0, 0, 0, 0, 0]) 3 rfl nd (e_abs (n := 0) t.blt.abs (a_cons (e_var 2) a_nil)) rfl)
 (ss_cons (s_for [false, false, false, false, false, false, false, false, false] rfl (passes_of rfl) rfl (i_range1 t.blt.range (e_op2 (n := 0) op_shlW od_shl (e_int (n := 0)) (e_len (n := 0) t.blt.len (a_cons (e_var 1) a_nil)))) (g_name 4 nd) (Γ' := [0, 0, 0, 0, 0, 0, 0, 0, 0]) rfl
 (ss_cons (s_asg (Γ' := [0, 0, 0, 0, 0, 0, 0, 0, 0]) 5 rfl nd (e_var 2) rfl)
 (ss_cons (s_for [false, false, false, false, false, false, false, false, false] rfl (passes_of rfl) rfl (i_range1 t.blt.range (e_len (n := 0) t.blt.len (a_cons (e_var 1) a_nil))) (g_name 6 nd) (Γ' := [0, 0, 0, 0, 0, 0, 0, 0, 0]) rfl
 (ss_one (s_if (Γ' := [0, 0, 0, 0, 0, 0, 0, 0, 0]) rfl (q_cmp (op_eqD hr.units) ob_eq (e_op2 (n := 0) op_and od_and (e_op2 (n := 0) op_shr od_shr (e_var 4) (e_var 6)) (e_int (n := 0))) (e_int (n := 0)) (nomark _))
 (ss_one (s_aug 5 rfl nd iop_add od_addI (e_ix (e_var 1) (e_var 6))))
 (ss_nil))))
 (ss_one (s_asg (Γ' := [0, 0, 0, 0, 0, 0, 0, 0, 0]) 3 rfl nd (e_max2 (n := 0) t.blt.max (a_cons (e_var 3) (a_cons (e_abs (n := 0) t.blt.abs (a_cons (e_var 5) a_nil)) a_nil))) rfl)))))
 (ss_cons (s_asg (Γ' := [0, 0, 0, 0, 0, 0, 0, 0, 0]) 7 rfl nd (e_fz (e_list t.blt.list (a_cons (e_var 1) a_nil))) rfl)
 (ss_cons (s_asg (Γ' := [0, 0, 0, 0, 0, 0, 0, 0, 0]) 8 rfl nd (e_fn c_reach hr (by decide) (takes_of rfl rfl rfl rfl) (a_cons (e_var 2) (a_cons (e_var 7) a_nil)) (al_cons (al_cons al_nil))) rfl)
 (ss_one (s_ret (Γ' := [0, 0, 0, 0, 0, 0, 0, 0, 0]) rfl (e_and (e_fn c__law_is_integer hr (by decide) (takes_of rfl rfl rfl rfl) (a_cons (e_var 8) a_nil) (al_cons al_nil)) (e_and (e_cmp (n := 0) (op_eqD hr.units) ob_eq (e_var 8) (e_var 3) (nomark _)) (e_one (e_cmp (n := 0) (op_eqD hr.units) ob_eq (e_var 7) (e_var 1) (nomark _))))))))))))))
abbrev st__law_big : Stmt := top 32
theorem sc__law_big : FnScope ["cell", "count", "low", "high", "pieces", "values", "k", "number", "piece"] ["cell", "count", "low", "high"] (defScope st__law_big) := ⟨rfl, rfl, rfl, by decide +kernel, rfl, by decide +kernel, by decide +kernel⟩
theorem ok__law_big {P : Program} {w : World} {K : PySem.W.Frag} {mg : Str → Option Value} {base : Heap} {fA : Addr} {fd : FuncData} {dvs : List V} {kws : List (Str × V)} (t : Tx K mg)  (c__law_values : FnS P w K mg base "_law_values" 1 4 f__law_values 1 []) (F : FunD K "_law_big" "_law_big" (defArgs st__law_big) (defBody st__law_big) (defScope st__law_big) dvs kws fA fd) :
    FnOk P w K mg base (L2.CX P w) 2 fA fd ["cell", "count", "low", "high"] (spF ⟨K, mg, none⟩ 4 f__law_big 0) := by
  have nd := (sc__law_big).nd
  exact fn_ok (Γ := [0, 0, 0, 0, 0, 0, 0, 0, 0]) (Γ' := [0, 0, 0, 0, 0, 0, 0, 0, 0]) F sc__law_big rfl rfl (fun cdv A outer s H E hr => by
    unfold b__law_big w__law_big_1 w__law_big_0
    exact (ss_cons (s_asg (Γ' := [0, 0, 0, 0, 0, 0, 0, 0, 0]) 4 rfl nd (e_fz (e_fn c__law_values hr (by decide) (takes_of rfl rfl rfl rfl) (a_cons (e_var 0) (a_cons (e_op2 op_mulD od_mul (e_int (n := 0)) (e_var 1)) (a_cons (e_int (n := 0)) (a_cons (e_op2 (n := 0) op_sub od_sub (e_op2 (n := 0) op_pow od_pow (e_int (n := 0)) (e_int (n := 0))) (e_int (n := 0))) a_nil)))) (al_cons (al_cons (al_cons (al_cons al_nil)))))) rfl)
 (ss_cons (s_asg (Γ' := [0, 0, 0, 0, 0, 1, 0, 0, 0]) 5 rfl nd (e_lst a_nil) rfl)
 (ss_cons (s_for [false, false, false, false, false, false, false, false, false] rfl (passes_of rfl) rfl (i_range1 t.blt.range (e_var 1)) (g_name 6 nd) (Γ' := [0, 0, 0, 0, 0, 0, 0, 0, 0]) rfl
 (ss_cons (s_asg (Γ' := [0, 0, 0, 0, 0, 1, 0, 0, 0]) 7 rfl nd (e_int (n := 0)) rfl)
 (ss_cons (s_for [false, false, false, false, false, true, false, false, false] rfl (passes_of rfl) rfl (i_seq (e_slL (e_var 4) (p_some (e_op2 op_mulD od_mul (e_int (n := 0)) (e_var 6))) (p_some (e_op2 op_addD od_add (e_op2 op_mulD od_mul (e_int (n := 0)) (e_var 6)) (e_int (n := 0)))))) (g_name 8 nd) (Γ' := [0, 0, 0, 0, 0, 1, 0, 0, 0]) rfl
 (ss_one (s_asg (Γ' := [0, 0, 0, 0, 0, 1, 0, 0, 0]) 7 rfl nd (e_fz (e_op2 op_addD od_add (e_op2 op_mulD od_mul (e_var 7) (e_op2 (n := 0) op_pow od_pow (e_int (n := 0)) (e_int (n := 0)))) (e_var 8))) rfl)))
 (ss_one (s_app 5 rfl (e_fz (e_op2 op_addD od_add (e_var 2) (e_op2 (n := 0) op_mod od_mod (e_int' (n := 0) t.blt.int (a_cons (e_var 7) a_nil)) (e_op2 op_addD od_add (e_op2 (n := 0) op_sub od_sub (e_var 3) (e_var 2)) (e_int (n := 0)))))))))))
 (ss_one (s_ret (Γ' := [0, 0, 0, 0, 0, 0, 0, 0, 0]) rfl (e_var 5)))))))
abbrev st__law_any : Stmt := top 33
theorem sc__law_any : FnScope ["cell", "count", "low", "high"] ["cell", "count", "low", "high"] (defScope st__law_any) := ⟨rfl, rfl, rfl, by decide +kernel, rfl, by decide +kernel, by decide +kernel⟩
theorem ok__law_any {P : Program} {w : World} {K : PySem.W.Frag} {mg : Str → Option Value} {base : Heap} {fA : Addr} {fd : FuncData} {dvs : List V} {kws : List (Str × V)} (t : Tx K mg)  (c__law_values : FnS P w K mg base "_law_values" 1 4 f__law_values 1 []) (c__law_big : FnS P w K mg base "_law_big" 2 4 f__law_big 0 []) (F : FunD K "_law_any" "_law_any" (defArgs st__law_any) (defBody st__law_any) (defScope st__law_any) dvs kws fA fd) :
    FnOk P w K mg base (L2.CX P w) 3 fA fd ["cell", "count", "low", "high"] (spF ⟨K, mg, none⟩ 4 f__law_any 0) := by
  have nd := (sc__law_any).nd
  exact fn_ok (Γ := [0, 0, 0, 0]) (Γ' := [0, 0, 0, 0]) F sc__law_any rfl rfl (fun cdv A outer s H E hr => by
    unfold b__law_any
    exact (ss_cons (s_if (Γ' := [0, 0, 0, 0]) rfl (q_cmp op_lt opd_B0 (e_op2 (n := 0) op_sub od_sub (e_var 3) (e_var 2)) (e_op2 (n := 0) op_pow od_pow (e_int (n := 0)) (e_int (n := 0))) (nomark _))
 (ss_one (s_ret (Γ' := [0, 0, 0, 0]) rfl (e_fz (e_fn c__law_values hr (by decide) (takes_of rfl rfl rfl rfl) (a_cons (e_var 0) (a_cons (e_var 1) (a_cons (e_var 2) (a_cons (e_var 3) a_nil)))) (al_cons (al_cons (al_cons (al_cons al_nil))))))))
 (ss_nil))
 (ss_one (s_ret (Γ' := [0, 0, 0, 0]) rfl (e_fn c__law_big hr (by decide) (takes_of rfl rfl rfl rfl) (a_cons (e_var 0) (a_cons (e_var 1) (a_cons (e_var 2) (a_cons (e_var 3) a_nil)))) (al_cons (al_cons (al_cons (al_cons al_nil)))))))))
abbrev st__law_far : Stmt := top 34
theorem sc__law_far : FnScope ["cell", "modulus", "lower", "count", "low", "numbers", "row", "slips", "last", "above", "below", "drawn", "drifts", "seen", "planned", "k", "bit", "number", "drift"] ["cell", "modulus", "lower"] (defScope st__law_far) := ⟨rfl, rfl, rfl, by decide +kernel, rfl, by decide +kernel, by decide +kernel⟩
theorem ok__law_far {P : Program} {w : World} {K : PySem.W.Frag} {mg : Str → Option Value} {base : Heap} {fA : Addr} {fd : FuncData} {dvs : List V} {kws : List (Str × V)} (t : Tx K mg)  (c__law_big : FnS P w K mg base "_law_big" 2 4 f__law_big 0 []) (c__law_any : FnS P w K mg base "_law_any" 3 4 f__law_any 0 []) (c__law_is_lowered : FnS P w K mg base "_law_is_lowered" 5 3 f__law_is_lowered 0 []) (c_row_slips : FnS P w K mg base "row_slips" 4 3 f_row_slips 0 []) (c__law_values : FnS P w K mg base "_law_values" 1 4 f__law_values 1 []) (c__law_drift : FnS P w K mg base "_law_drift" 2 4 f__law_drift 0 []) (c__law_told : FnS P w K mg base "_law_told" 5 4 f__law_told 0 []) (c_lower_seen : FnS P w K mg base "lower_seen" 5 3 f_lower_seen 0 []) (c_lower_planned : FnS P w K mg base "lower_planned" 1 2 f_lower_planned 0 []) (F : FunD K "_law_far" "_law_far" (defArgs st__law_far) (defBody st__law_far) (defScope st__law_far) dvs kws fA fd) :
    FnOk P w K mg base (L2.CX P w) 6 fA fd ["cell", "modulus", "lower"] (spF ⟨K, mg, none⟩ 3 f__law_far 0) := by
  have nd := (sc__law_far).nd
  exact fn_ok (Γ := [0, 0, 0, 0, 0, 0, 0, 0, 0, 0, 0, 0, 0, 0, 0, 0, 0, 0, 0]) (Γ' := [0, 0, 0, 0, 0, 0, 0, 0, 0, 0, 0, 0, 0, 0, 0, 0, 0, 0, 0]) F sc__law_far rfl rfl (fun cdv A outer s H E hr => by
    unfold b__law_far t__law_far_1 t__law_far_0 c__law_far_5 c__law_far_4 c__law_far_3 c__law_far_2 cq__law_far_1 c__law_far_1 cq__law_far_0 c__law_far_0
    exact (ss_cons (s_if (Γ' := [0, 0, 0, 0, 0, 0, 0, 0, 0, 0, 0, 0, 0, 0, 0, 0, 0, 0, 0]) rfl (q_cmp (op_eqD hr.units) ob_eq (e_op2 (n := 0) op_and od_and (e_int' (n := 0) t.blt.int (a_cons (e_var 0) a_nil)) (e_int (n := 0))) (e_int (n := 0)) (nomark _))
 (ss_cons (s_asg (Γ' := [0, 0, 0, 0, 0, 0, 0, 0, 0, 0, 0, 0, 0, 0, 0, 0, 0, 0, 0]) 1 rfl nd (e_ix (e_fn c__law_big hr (by decide) (takes_of rfl rfl rfl rfl) (a_cons (e_var 0) (a_cons (e_int (n := 0)) (a_cons (e_op2 (n := 0) op_pow od_pow (e_int (n := 0)) (e_int (n := 0))) (a_cons (e_op2 op_mulD od_mul (e_op2 (n := 0) op_pow od_pow (e_int (n := 0)) (e_int (n := 0))) (e_op2 (n := 0) op_pow od_pow (e_int (n := 0)) (e_int (n := 0)))) a_nil)))) (al_cons (al_cons (al_cons (al_cons al_nil))))) (e_int (n := 0))) rfl)
 (ss_one (s_asg (Γ' := [0, 0, 0, 0, 0, 0, 0, 0, 0, 0, 0, 0, 0, 0, 0, 0, 0, 0, 0]) 2 rfl nd (e_ix (e_fn c__law_any hr (by decide) (takes_of rfl rfl rfl rfl) (a_cons (e_op2 (n := 0) op_fdivL od_div (e_var 0) (e_int (n := 0))) (a_cons (e_int (n := 0)) (a_cons (e_int (n := 0)) (a_cons (e_var 1) a_nil)))) (al_cons (al_cons (al_cons (al_cons al_nil))))) (e_int (n := 0))) rfl)))
 (ss_nil))
 (ss_cons (s_asg (Γ' := [0, 0, 0, 0, 0, 0, 0, 0, 0, 0, 0, 0, 0, 0, 0, 0, 0, 0, 0]) 3 rfl nd (e_ix (e_lst (a_cons (e_int (n := 0)) (a_cons (e_int (n := 0)) (a_cons (e_int (n := 0)) a_nil)))) (e_op2 (n := 0) op_mod od_mod (e_int' (n := 0) t.blt.int (a_cons (e_op2 (n := 0) op_fdivL od_div (e_var 0) (e_int (n := 0))) a_nil)) (e_int (n := 0)))) rfl)
 (ss_cons (s_asg (Γ' := [0, 0, 0, 0, 0, 0, 0, 0, 0, 0, 0, 0, 0, 0, 0, 0, 0, 0, 0]) 4 rfl nd (e_op2 (n := 0) op_sub od_sub (e_int (n := 0)) (e_op2 (n := 0) op_fdivL od_div (e_op2 (n := 0) op_sub od_sub (e_var 1) (e_int (n := 0))) (e_int (n := 0)))) rfl)
 (ss_cons (s_asg (Γ' := [0, 0, 0, 0, 0, 0, 0, 0, 0, 0, 0, 0, 0, 0, 0, 0, 0, 0, 0]) 5 rfl nd (e_fn c__law_any hr (by decide) (takes_of rfl rfl rfl rfl) (a_cons (e_op2 (n := 0) op_fdivL od_div (e_var 0) (e_int (n := 0))) (a_cons (e_op2 op_addD od_add (e_var 3) (e_int (n := 0))) (a_cons (e_var 4) (a_cons (e_op2 (n := 0) op_fdivL od_div (e_var 1) (e_int (n := 0))) a_nil)))) (al_cons (al_cons (al_cons (al_cons al_nil))))) rfl)
 (ss_cons (s_asg (Γ' := [0, 0, 0, 0, 0, 0, 0, 0, 0, 0, 0, 0, 0, 0, 0, 0, 0, 0, 0]) 6 rfl nd (e_tup (n := 0) (a_cons (e_slL (e_var 5) (p_some (e_int (n := 0))) p_none) (a_cons (e_ix (e_var 5) (e_int (n := 0))) a_nil))) rfl)
 (ss_cons (s_if (Γ' := [0, 0, 0, 0, 0, 0, 0, 0, 0, 0, 0, 0, 0, 0, 0, 0, 0, 0, 0]) rfl (q_not (q_tru (e_fn c__law_is_lowered hr (by decide) (takes_of rfl rfl rfl rfl) (a_cons (e_var 1) (a_cons (e_var 6) (a_cons (e_var 2) a_nil))) (al_cons (al_cons (al_cons al_nil))))))
 (ss_one (s_ret (Γ' := [0, 0, 0, 0, 0, 0, 0, 0, 0, 0, 0, 0, 0, 0, 0, 0, 0, 0, 0]) rfl (e_bl (n := 0))))
 (ss_nil))
 (ss_cons (s_asgT rfl (e_fn c_row_slips hr (by decide) (takes_of rfl rfl rfl rfl) (a_cons (e_var 1) (a_cons (e_var 6) (a_cons (e_var 2) a_nil))) (al_cons (al_cons (al_cons al_nil)))) (g_tup rfl (gs_cons (g_name 7 nd) (gs_cons (g_name 8 nd) gs_nil)) (bl_cons (bl_cons bl_nil))))
 (ss_cons (s_asg (Γ' := [0, 0, 0, 0, 0, 0, 0, 0, 0, 0, 0, 0, 0, 0, 0, 0, 0, 0, 0]) 9 rfl nd (e_sum (n := 0) t.blt.sum (a_cons (e_comp rfl nd (i_range1 t.blt.range (e_var 3)) (blkOk_by (own := [(("k" : Str), 15)]) (by kernel_rfl)) (by decide) (fun _ _ _ _ _ => (g_name 15 nd)) (fun _ _ _ _ _ => (t_one (q_cmp op_gt opd_B0 (e_ix (e_var 7) (e_var 15)) (e_int (n := 0)) (nomark _)))) (fun _ _ _ _ _ => (e_op2 (n := 0) op_shlW od_shl (e_int (n := 0)) (e_var 15)))) a_nil)) rfl)
 (ss_cons (s_asg (Γ' := [0, 0, 0, 0, 0, 0, 0, 0, 0, 0, 0, 0, 0, 0, 0, 0, 0, 0, 0]) 10 rfl nd (e_sum (n := 0) t.blt.sum (a_cons (e_comp rfl nd (i_range1 t.blt.range (e_var 3)) (blkOk_by (own := [(("k" : Str), 15)]) (by kernel_rfl)) (by decide) (fun _ _ _ _ _ => (g_name 15 nd)) (fun _ _ _ _ _ => (t_one (q_cmp op_lt opd_B0 (e_ix (e_var 7) (e_var 15)) (e_int (n := 0)) (nomark _)))) (fun _ _ _ _ _ => (e_op2 (n := 0) op_shlW od_shl (e_int (n := 0)) (e_var 15)))) a_nil)) rfl)
 (ss_cons (s_asg (Γ' := [0, 0, 0, 0, 0, 0, 0, 0, 0, 0, 0, 0, 0, 0, 0, 0, 0, 0, 0]) 11 rfl nd (e_sum (n := 0) t.blt.sum (a_cons (e_comp rfl nd (i_enum t.blt.enumerate (e_fn c__law_values hr (by decide) (takes_of rfl rfl rfl rfl) (a_cons (e_op2 (n := 0) op_fdivL od_div (e_var 0) (e_int (n := 0))) (a_cons (e_var 3) (a_cons (e_int (n := 0)) (a_cons (e_int (n := 0)) a_nil)))) (al_cons (al_cons (al_cons (al_cons al_nil)))))) (blkOk_by (own := [(("k" : Str), 15), (("bit" : Str), 16)]) (by kernel_rfl)) (by decide) (fun _ _ _ _ _ => (g_tup rfl (gs_cons (g_name 15 nd) (gs_cons (g_name 16 nd) gs_nil)) (bl_cons (bl_cons bl_nil)))) (fun _ _ _ _ _ => t_nil) (fun _ _ _ _ _ => (e_op2 (n := 0) op_shlW od_shl (e_var 16) (e_var 15)))) a_nil)) rfl)
 (ss_cons (s_fz [false, false, false, false, false, false, false, false, false, false, false, false, false, false, false, false, false, false, false] rfl (Γ1 := [0, 0, 0, 0, 0, 0, 0, 0, 0, 0, 0, 0, 1, 0, 0, 0, 0, 0, 0]) (Γ2 := [0, 0, 0, 0, 0, 0, 0, 0, 0, 0, 0, 0, 0, 0, 0, 0, 0, 0, 0]) (s_asgC 12 rfl rfl nd (i_seq (e_lst (a_cons (e_var 9) (a_cons (e_var 10) (a_cons (e_var 11) (a_cons (e_int (n := 0)) a_nil)))))) (blkOk_by (own := [(("number" : Str), 17)]) (by kernel_rfl)) (by decide) (fun _ _ _ _ _ => (g_name 17 nd)) (fun _ _ _ _ _ => t_nil) (fun _ _ _ _ _ => (e_fn c__law_drift hr (by decide) takes0 (a_cons (e_var 1) (a_cons (e_var 6) (a_cons (e_var 2) (a_cons (e_var 17) a_nil)))) (al_cons (al_cons (al_cons (al_cons al_nil)))))) (Γ' := [0, 0, 0, 0, 0, 0, 0, 0, 0, 0, 0, 0, 1, 0, 0, 0, 0, 0, 0]) rfl (Or.inl (by decide))))
 (ss_cons (s_if (Γ' := [0, 0, 0, 0, 0, 0, 0, 0, 0, 0, 0, 0, 0, 0, 0, 0, 0, 0, 0]) rfl (q_cmp (op_neD hr.units) ob_ne (e_var 12) (e_comp rfl nd (i_seq (e_lst (a_cons (e_var 9) (a_cons (e_var 10) (a_cons (e_var 11) (a_cons (e_int (n := 0)) a_nil)))))) (blkOk_by (own := [(("number" : Str), 17)]) (by kernel_rfl)) (by decide) (fun _ _ _ _ _ => (g_name 17 nd)) (fun _ _ _ _ _ => t_nil) (fun _ _ _ _ _ => (e_fn c__law_told hr (by decide) takes0 (a_cons (e_var 1) (a_cons (e_var 6) (a_cons (e_var 2) (a_cons (e_var 17) a_nil)))) (al_cons (al_cons (al_cons (al_cons al_nil))))))) (nomark _))
 (ss_one (s_ret (Γ' := [0, 0, 0, 0, 0, 0, 0, 0, 0, 0, 0, 0, 0, 0, 0, 0, 0, 0, 0]) rfl (e_bl (n := 0))))
 (ss_nil))
 (ss_cons (s_asg (Γ' := [0, 0, 0, 0, 0, 0, 0, 0, 0, 0, 0, 0, 0, 0, 0, 0, 0, 0, 0]) 13 rfl nd (e_fn c_lower_seen hr (by decide) (takes_of rfl rfl rfl rfl) (a_cons (e_var 1) (a_cons (e_var 6) (a_cons (e_var 2) a_nil))) (al_cons (al_cons (al_cons al_nil)))) rfl)
 (ss_cons (s_asg (Γ' := [0, 0, 0, 0, 0, 0, 0, 0, 0, 0, 0, 0, 0, 0, 0, 0, 0, 0, 0]) 14 rfl nd (e_fn c_lower_planned hr (by decide) (takes_of rfl rfl rfl rfl) (a_cons (e_var 1) (a_cons (e_var 3) a_nil)) (al_cons (al_cons al_nil))) rfl)
 (ss_one (s_ret (Γ' := [0, 0, 0, 0, 0, 0, 0, 0, 0, 0, 0, 0, 0, 0, 0, 0, 0, 0, 0]) rfl (e_and (e_cmp (n := 0) (op_eqD hr.units) ob_eq (e_var 13) (e_max (n := 0) t.blt.max (a_cons (e_comp rfl nd (i_seq (e_var 12)) (blkOk_by (own := [(("drift" : Str), 18)]) (by kernel_rfl)) (by decide) (fun _ _ _ _ _ => (g_name 18 nd)) (fun _ _ _ _ _ => t_nil) (fun _ _ _ _ _ => (e_abs (n := 0) t.blt.abs (a_cons (e_var 18) a_nil)))) a_nil)) (nomark _)) (e_and (e_cmp (n := 0) (op_eqD hr.units) ob_eq (e_var 14) (e_op2 (n := 0) op_fdivL od_div (e_op2 op_mulD od_mul (e_op2 op_addD od_add (e_var 3) (e_int (n := 0))) (e_var 1)) (e_int (n := 0))) (nomark _)) (e_one (e_cmp (n := 0) op_le opd_B0 (e_var 13) (e_var 14) (nomark _))))))))))))))))))))))
abbrev st_law : Stmt := top 35
theorem sc_law : FnScope ["script", "cell", "modulus", "lower", "low", "high", "numbers", "last", "edge", "k", "row", "wrong"] ["script"] (defScope st_law) := ⟨rfl, rfl, rfl, by decide +kernel, rfl, by decide +kernel, by decide +kernel⟩
theorem ok_law {P : Program} {w : World} {K : PySem.W.Frag} {mg : Str → Option Value} {base : Heap} {fA : Addr} {fd : FuncData} {dvs : List V} {kws : List (Str × V)} (t : Tx K mg)  (c__law_wide : FnS P w K mg base "_law_wide" 1 1 f__law_wide 0 []) (c__law_cell : FnS P w K mg base "_law_cell" 1 2 f__law_cell 0 []) (c__law_values : FnS P w K mg base "_law_values" 1 4 f__law_values 1 []) (c__law_centred : FnS P w K mg base "_law_centred" 1 2 f__law_centred 0 []) (c__law_is_lowered : FnS P w K mg base "_law_is_lowered" 5 3 f__law_is_lowered 0 []) (c__law_asks : FnS P w K mg base "_law_asks" 6 3 f__law_asks 0 []) (c__law_refuses : FnS P w K mg base "_law_refuses" 5 3 f__law_refuses 0 []) (c__law_far : FnS P w K mg base "_law_far" 6 3 f__law_far 0 []) (c__law_reaches : FnS P w K mg base "_law_reaches" 2 1 f__law_reaches 0 []) (F : FunD K "law" "law" (defArgs st_law) (defBody st_law) (defScope st_law) dvs kws fA fd) :
    FnOk P w K mg base (L2.CX P w) 7 fA fd ["script"] (spF ⟨K, mg, none⟩ 1 f_law 0) := by
  have nd := (sc_law).nd
  exact fn_ok (Γ := [0, 0, 0, 0, 0, 0, 0, 0, 0, 0, 0, 0]) (Γ' := [0, 0, 0, 0, 0, 0, 0, 0, 0, 0, 0, 0]) F sc_law rfl rfl (fun cdv A outer s H E hr => by
    unfold b_law t_law_3 t_law_2 t_law_1 t_law_0 w_law_1 w_law_0
    exact (ss_cons (s_asg (Γ' := [0, 0, 0, 0, 0, 0, 0, 0, 0, 0, 0, 0]) 1 rfl nd (e_fn c__law_wide hr (by decide) (takes_of rfl rfl rfl rfl) (a_cons (e_fn c__law_cell hr (by decide) (takes_of rfl rfl rfl rfl) (a_cons (e_var 0) (a_cons (e_int (n := 0)) a_nil)) (al_cons (al_cons al_nil))) a_nil) (al_cons al_nil)) rfl)
 (ss_cons (s_asg (Γ' := [0, 0, 0, 0, 0, 0, 0, 0, 0, 0, 0, 0]) 2 rfl nd (e_fz (e_op2 op_addD od_add (e_int (n := 0)) (e_op2 (n := 0) op_mod od_mod (e_int' (n := 0) t.blt.int (a_cons (e_op2 (n := 0) op_fdivL od_div (e_var 1) (e_int (n := 0))) a_nil)) (e_ix (e_lst (a_cons (e_int (n := 0)) (a_cons (e_int (n := 0)) (a_cons (e_op2 (n := 0) op_pow od_pow (e_int (n := 0)) (e_int (n := 0))) (a_cons (e_op2 (n := 0) op_sub od_sub (e_op2 (n := 0) op_pow od_pow (e_int (n := 0)) (e_int (n := 0))) (e_int (n := 0))) a_nil))))) (e_op2 (n := 0) op_and od_and (e_int' (n := 0) t.blt.int (a_cons (e_var 1) a_nil)) (e_int (n := 0))))))) rfl)
 (ss_cons (s_if (Γ' := [0, 0, 0, 0, 0, 0, 0, 0, 0, 0, 0, 0]) rfl (q_cmp (op_eqD hr.units) ob_eq (e_op2 (n := 0) op_and od_and (e_int' (n := 0) t.blt.int (a_cons (e_op2 (n := 0) op_fdivL od_div (e_var 1) (e_int (n := 0))) a_nil)) (e_int (n := 0))) (e_int (n := 0)) (nomark _))
 (ss_one (s_asg (Γ' := [0, 0, 0, 0, 0, 0, 0, 0, 0, 0, 0, 0]) 2 rfl nd (e_op2 (n := 0) op_shlW od_shl (e_int (n := 0)) (e_op2 op_addD od_add (e_int (n := 0)) (e_op2 (n := 0) op_mod od_mod (e_int' (n := 0) t.blt.int (a_cons (e_op2 (n := 0) op_fdivL od_div (e_var 1) (e_int (n := 0))) a_nil)) (e_int (n := 0))))) rfl))
 (ss_nil))
 (ss_cons (s_asg (Γ' := [0, 0, 0, 0, 0, 0, 0, 0, 0, 0, 0, 0]) 3 rfl nd (e_fz (e_op2 op_addD od_add (e_int (n := 0)) (e_op2 (n := 0) op_mod od_mod (e_int' (n := 0) t.blt.int (a_cons (e_fn c__law_cell hr (by decide) (takes_of rfl rfl rfl rfl) (a_cons (e_var 0) (a_cons (e_int (n := 0)) a_nil)) (al_cons (al_cons al_nil))) a_nil)) (e_op2 (n := 0) op_sub od_sub (e_var 2) (e_int (n := 0)))))) rfl)
 (ss_cons (s_if (Γ' := [0, 0, 0, 0, 0, 0, 0, 0, 0, 0, 0, 0]) rfl (q_cmp (op_eqD hr.units) ob_eq (e_op2 (n := 0) op_and od_and (e_int' (n := 0) t.blt.int (a_cons (e_op2 (n := 0) op_fdivL od_div (e_var 1) (e_op2 (n := 0) op_pow od_pow (e_int (n := 0)) (e_int (n := 0)))) a_nil)) (e_int (n := 0))) (e_int (n := 0)) (nomark _))
 (ss_one (s_asg (Γ' := [0, 0, 0, 0, 0, 0, 0, 0, 0, 0, 0, 0]) 3 rfl nd (e_fz (e_op2 op_addD od_add (e_int (n := 0)) (e_op2 (n := 0) op_mod od_mod (e_int' (n := 0) t.blt.int (a_cons (e_fn c__law_cell hr (by decide) (takes_of rfl rfl rfl rfl) (a_cons (e_var 0) (a_cons (e_int (n := 0)) a_nil)) (al_cons (al_cons al_nil))) a_nil)) (e_min2 (n := 0) t.blt.min (a_cons (e_op2 (n := 0) op_sub od_sub (e_var 2) (e_int (n := 0))) (a_cons (e_int (n := 0)) a_nil)))))) rfl))
 (ss_nil))
 (ss_cons (s_asg (Γ' := [0, 0, 0, 0, 0, 0, 0, 0, 0, 0, 0, 0]) 4 rfl nd (e_op2 (n := 0) op_sub od_sub (e_int (n := 0)) (e_op2 (n := 0) op_fdivL od_div (e_op2 (n := 0) op_sub od_sub (e_var 2) (e_int (n := 0))) (e_int (n := 0)))) rfl)
 (ss_cons (s_asg (Γ' := [0, 0, 0, 0, 0, 0, 0, 0, 0, 0, 0, 0]) 5 rfl nd (e_op2 (n := 0) op_fdivL od_div (e_var 2) (e_int (n := 0))) rfl)
 (ss_cons (s_asg (Γ' := [0, 0, 0, 0, 0, 0, 1, 0, 0, 0, 0, 0]) 6 rfl nd (e_fn c__law_values hr (by decide) (takes_of rfl rfl rfl rfl) (a_cons (e_fn c__law_cell hr (by decide) (takes_of rfl rfl rfl rfl) (a_cons (e_var 0) (a_cons (e_int (n := 0)) a_nil)) (al_cons (al_cons al_nil))) (a_cons (e_op2 op_addD od_add (e_int (n := 0)) (e_op2 (n := 0) op_mod od_mod (e_int' (n := 0) t.blt.int (a_cons (e_op2 (n := 0) op_fdivL od_div (e_var 1) (e_op2 (n := 0) op_pow od_pow (e_int (n := 0)) (e_int (n := 0)))) a_nil)) (e_int (n := 0)))) (a_cons (e_var 4) (a_cons (e_var 5) a_nil)))) (al_cons (al_cons (al_cons (al_cons al_nil))))) rfl)
 (ss_cons (s_asg (Γ' := [0, 0, 0, 0, 0, 0, 1, 0, 0, 0, 0, 0]) 7 rfl nd (e_ix (e_fn c__law_values hr (by decide) (takes_of rfl rfl rfl rfl) (a_cons (e_fn c__law_cell hr (by decide) (takes_of rfl rfl rfl rfl) (a_cons (e_var 0) (a_cons (e_int (n := 0)) a_nil)) (al_cons (al_cons al_nil))) (a_cons (e_int (n := 0)) (a_cons (e_var 4) (a_cons (e_var 5) a_nil)))) (al_cons (al_cons (al_cons (al_cons al_nil))))) (e_int (n := 0))) rfl)
 (ss_cons (s_asg (Γ' := [0, 0, 0, 0, 0, 0, 1, 0, 0, 0, 0, 0]) 8 rfl nd (e_fn c__law_wide hr (by decide) (takes_of rfl rfl rfl rfl) (a_cons (e_fn c__law_cell hr (by decide) (takes_of rfl rfl rfl rfl) (a_cons (e_var 0) (a_cons (e_int (n := 0)) a_nil)) (al_cons (al_cons al_nil))) a_nil) (al_cons al_nil)) rfl)
 (ss_cons (s_for [false, false, false, false, false, false, false, false, false, false, false, false] rfl (passes_of rfl) rfl (i_range1 t.blt.range (e_lenO (n := 0) 6 t.blt.len)) (g_name 9 nd) (Γ' := [0, 0, 0, 0, 0, 0, 0, 0, 0, 0, 0, 0]) rfl
 (ss_one (s_if (Γ' := [0, 0, 0, 0, 0, 0, 1, 0, 0, 0, 0, 0]) rfl (q_cmp (op_eqD hr.units) ob_eq (e_op2 (n := 0) op_and od_and (e_int' (n := 0) t.blt.int (a_cons (e_op2 (n := 0) op_shr od_shr (e_var 8) (e_var 9)) a_nil)) (e_int (n := 0))) (e_int (n := 0)) (nomark _))
 (ss_one (s_set 6 rfl (e_fn c__law_centred hr (by decide) (takes_of rfl rfl rfl rfl) (a_cons (e_op2 (n := 0) op_fdivL od_div (e_op2 op_mulD od_mul (e_op2 op_addD od_add (e_op2 op_mulD od_mul (e_int (n := 0)) (e_op2 (n := 0) op_sub od_sub (e_op2 (n := 0) op_mod od_mod (e_int' (n := 0) t.blt.int (a_cons (e_op2 (n := 0) op_fdivL od_div (e_var 8) (e_int (n := 0))) a_nil)) (e_int (n := 0))) (e_int (n := 0)))) (e_int (n := 0))) (e_var 2)) (e_op2 op_mulD od_mul (e_int (n := 0)) (e_var 3))) (a_cons (e_var 2) a_nil)) (al_cons (al_cons al_nil))) (e_var 9)))
 (ss_nil))))
 (ss_cons (s_asg (Γ' := [0, 0, 0, 0, 0, 0, 0, 0, 0, 0, 0, 0]) 10 rfl nd (e_tup (n := 0) (a_cons (e_var 6) (a_cons (e_var 7) a_nil))) rfl)
 (ss_cons (s_if (Γ' := [0, 0, 0, 0, 0, 0, 0, 0, 0, 0, 0, 0]) rfl (q_w (w_or (q_not (q_tru (e_fn c__law_is_lowered hr (by decide) (takes_of rfl rfl rfl rfl) (a_cons (e_var 2) (a_cons (e_var 10) (a_cons (e_var 3) a_nil))) (al_cons (al_cons (al_cons al_nil)))))) (w_or1 (q_not (q_tru (e_fn c__law_asks hr (by decide) (takes_of rfl rfl rfl rfl) (a_cons (e_var 2) (a_cons (e_var 10) (a_cons (e_var 3) a_nil))) (al_cons (al_cons (al_cons al_nil)))))))))
 (ss_one (s_ret (Γ' := [0, 0, 0, 0, 0, 0, 0, 0, 0, 0, 0, 0]) rfl (e_bl (n := 0))))
 (ss_nil))
 (ss_cons (s_for [false, false, false, false, false, false, false, false, false, false, false, false] rfl (passes_of rfl) rfl (i_seq (e_lst (a_cons (e_int (n := 0)) (a_cons (e_int (n := 0)) (a_cons (e_un (n := 0) un_neg ud_neg (e_int (n := 0))) (a_cons (e_op2 op_addD od_add (e_var 2) (e_int (n := 0))) (a_cons (e_op2 op_mulD od_mul (e_int (n := 0)) (e_var 2)) a_nil))))))) (g_name 11 nd) (Γ' := [0, 0, 0, 0, 0, 0, 0, 0, 0, 0, 0, 0]) rfl
 (ss_one (s_if (Γ' := [0, 0, 0, 0, 0, 0, 0, 0, 0, 0, 0, 0]) rfl (q_not (q_tru (e_fn c__law_refuses hr (by decide) (takes_of rfl rfl rfl rfl) (a_cons (e_var 2) (a_cons (e_var 10) (a_cons (e_var 11) a_nil))) (al_cons (al_cons (al_cons al_nil))))))
 (ss_one (s_ret (Γ' := [0, 0, 0, 0, 0, 0, 0, 0, 0, 0, 0, 0]) rfl (e_bl (n := 0))))
 (ss_nil))))
 (ss_cons (s_if (Γ' := [0, 0, 0, 0, 0, 0, 0, 0, 0, 0, 0, 0]) rfl (q_w (w_and (q_cmp (op_eqD hr.units) ob_eq (e_op2 (n := 0) op_mod od_mod (e_int' (n := 0) t.blt.int (a_cons (e_op2 (n := 0) op_fdivL od_div (e_op2 (n := 0) op_fdivL od_div (e_var 1) (e_op2 (n := 0) op_pow od_pow (e_int (n := 0)) (e_int (n := 0)))) (e_int (n := 0))) a_nil)) (e_int (n := 0))) (e_int (n := 0)) (nomark _)) (w_and1 (q_not (q_tru (e_fn c__law_far hr (by decide) (takes_of rfl rfl rfl rfl) (a_cons (e_fn c__law_wide hr (by decide) (takes_of rfl rfl rfl rfl) (a_cons (e_fn c__law_cell hr (by decide) (takes_of rfl rfl rfl rfl) (a_cons (e_var 0) (a_cons (e_int (n := 0)) a_nil)) (al_cons (al_cons al_nil))) a_nil) (al_cons al_nil)) (a_cons (e_var 2) (a_cons (e_var 3) a_nil))) (al_cons (al_cons (al_cons al_nil)))))))))
 (ss_one (s_ret (Γ' := [0, 0, 0, 0, 0, 0, 0, 0, 0, 0, 0, 0]) rfl (e_bl (n := 0))))
 (ss_nil))
 (ss_one (s_ret (Γ' := [0, 0, 0, 0, 0, 0, 0, 0, 0, 0, 0, 0]) rfl (e_fn c__law_reaches hr (by decide) (takes_of rfl rfl rfl rfl) (a_cons (e_fn c__law_wide hr (by decide) (takes_of rfl rfl rfl rfl) (a_cons (e_fn c__law_cell hr (by decide) (takes_of rfl rfl rfl rfl) (a_cons (e_var 0) (a_cons (e_int (n := 0)) a_nil)) (al_cons (al_cons al_nil))) a_nil) (al_cons al_nil)) a_nil) (al_cons al_nil))))))))))))))))))))
end K39
namespace K39
open PySem PySem.Spec PyProof.Rows L2 VL
def d_check_modulus : He.DefD := ⟨("check_modulus", none), "check_modulus", "check_modulus", defArgs st_check_modulus, defBody st_check_modulus, defScope st_check_modulus, [], []⟩
def d_centred : He.DefD := ⟨("centred", none), "centred", "centred", defArgs st_centred, defBody st_centred, defScope st_centred, [], []⟩
def d_round_div : He.DefD := ⟨("round_div", none), "round_div", "round_div", defArgs st_round_div, defBody st_round_div, defScope st_round_div, [], []⟩
def d_centred_row : He.DefD := ⟨("centred_row", none), "centred_row", "centred_row", defArgs st_centred_row, defBody st_centred_row, defScope st_centred_row, [], []⟩
def d_check_lower : He.DefD := ⟨("check_lower", none), "check_lower", "check_lower", defArgs st_check_lower, defBody st_check_lower, defScope st_check_lower, [], []⟩
def d_row_lower : He.DefD := ⟨("row_lower", none), "row_lower", "row_lower", defArgs st_row_lower, defBody st_row_lower, defScope st_row_lower, [], []⟩
def d_slip : He.DefD := ⟨("slip", none), "slip", "slip", defArgs st_slip, defBody st_slip, defScope st_slip, [], []⟩
def d_row_slips : He.DefD := ⟨("row_slips", none), "row_slips", "row_slips", defArgs st_row_slips, defBody st_row_slips, defScope st_row_slips, [], []⟩
def d_reach : He.DefD := ⟨("reach", none), "reach", "reach", defArgs st_reach, defBody st_reach, defScope st_reach, [], []⟩
def d_lower_seen : He.DefD := ⟨("lower_seen", none), "lower_seen", "lower_seen", defArgs st_lower_seen, defBody st_lower_seen, defScope st_lower_seen, [], []⟩
def d_lower_planned : He.DefD := ⟨("lower_planned", none), "lower_planned", "lower_planned", defArgs st_lower_planned, defBody st_lower_planned, defScope st_lower_planned, [], []⟩
def d__law_cell : He.DefD := ⟨("_law_cell", none), "_law_cell", "_law_cell", defArgs st__law_cell, defBody st__law_cell, defScope st__law_cell, [], []⟩
def d__law_is_integer : He.DefD := ⟨("_law_is_integer", none), "_law_is_integer", "_law_is_integer", defArgs st__law_is_integer, defBody st__law_is_integer, defScope st__law_is_integer, [], []⟩
def d__law_wide : He.DefD := ⟨("_law_wide", none), "_law_wide", "_law_wide", defArgs st__law_wide, defBody st__law_wide, defScope st__law_wide, [], []⟩
def d__law_values : He.DefD := ⟨("_law_values", none), "_law_values", "_law_values", defArgs st__law_values, defBody st__law_values, defScope st__law_values, [], []⟩
def d__law_centred : He.DefD := ⟨("_law_centred", none), "_law_centred", "_law_centred", defArgs st__law_centred, defBody st__law_centred, defScope st__law_centred, [], []⟩
def d__law_is_row : He.DefD := ⟨("_law_is_row", none), "_law_is_row", "_law_is_row", defArgs st__law_is_row, defBody st__law_is_row, defScope st__law_is_row, [], []⟩
def d__law_round : He.DefD := ⟨("_law_round", none), "_law_round", "_law_round", defArgs st__law_round, defBody st__law_round, defScope st__law_round, [], []⟩
def d__law_refuses : He.DefD := ⟨("_law_refuses", none), "_law_refuses", "_law_refuses", defArgs st__law_refuses, defBody st__law_refuses, defScope st__law_refuses, [], []⟩
def d__law_is_lowered : He.DefD := ⟨("_law_is_lowered", none), "_law_is_lowered", "_law_is_lowered", defArgs st__law_is_lowered, defBody st__law_is_lowered, defScope st__law_is_lowered, [], []⟩
def d__law_drift : He.DefD := ⟨("_law_drift", none), "_law_drift", "_law_drift", defArgs st__law_drift, defBody st__law_drift, defScope st__law_drift, [], []⟩
def d__law_told : He.DefD := ⟨("_law_told", none), "_law_told", "_law_told", defArgs st__law_told, defBody st__law_told, defScope st__law_told, [], []⟩
def d__law_asks : He.DefD := ⟨("_law_asks", none), "_law_asks", "_law_asks", defArgs st__law_asks, defBody st__law_asks, defScope st__law_asks, [], []⟩
def d__law_reaches : He.DefD := ⟨("_law_reaches", none), "_law_reaches", "_law_reaches", defArgs st__law_reaches, defBody st__law_reaches, defScope st__law_reaches, [], []⟩
def d__law_big : He.DefD := ⟨("_law_big", none), "_law_big", "_law_big", defArgs st__law_big, defBody st__law_big, defScope st__law_big, [], []⟩
def d__law_any : He.DefD := ⟨("_law_any", none), "_law_any", "_law_any", defArgs st__law_any, defBody st__law_any, defScope st__law_any, [], []⟩
def d__law_far : He.DefD := ⟨("_law_far", none), "_law_far", "_law_far", defArgs st__law_far, defBody st__law_far, defScope st__law_far, [], []⟩
def d_law : He.DefD := ⟨("law", none), "law", "law", defArgs st_law, defBody st_law, defScope st_law, [], []⟩
def fn : List He.DefD := [d_check_modulus, d_centred, d_round_div, d_centred_row, d_check_lower, d_row_lower, d_slip, d_row_slips, d_reach, d_lower_seen, d_lower_planned, d__law_cell, d__law_is_integer, d__law_wide, d__law_values, d__law_centred, d__law_is_row, d__law_round, d__law_refuses, d__law_is_lowered, d__law_drift, d__law_told, d__law_asks, d__law_reaches, d__law_big, d__law_any, d__law_far, d_law]
def fa : List He.Fa := bltFa ++ [.glo "check_modulus", .glo "centred", .glo "round_div", .glo "centred_row", .glo "check_lower", .glo "row_lower", .glo "slip", .glo "row_slips", .glo "reach", .glo "lower_seen", .glo "lower_planned", .glo "_law_cell", .glo "_law_is_integer", .glo "_law_wide", .glo "_law_values", .glo "_law_centred", .glo "_law_is_row", .glo "_law_round", .glo "_law_refuses", .glo "_law_is_lowered", .glo "_law_drift", .glo "_law_told", .glo "_law_asks", .glo "_law_reaches", .glo "_law_big", .glo "_law_any", .glo "_law_far", .glo "law", .glo "Malformed", .glo "OutOfRange", .glo "PurseError"]
abbrev R : PySem.W.OpenRow := PySem.W.OpenLaw.row PySem.Challenge.rw_noisepurse_k39_lowered_rows
abbrev hk : PySem.W.Hook := hookV 4 fa fn
def ob (s : PySem.W.SharedT) : (Bool × Bool) × He.AlD := obsVG 4 fa fn (HandSHeadRun.getT s)
theorem ob_eq (s : PySem.W.SharedT) : ob s = hk.obs s.abs := obsVG_eq (HandSHeadRun.getT_eq s)
theorem run (w : World) : HandSHeadRun.RunEq R (PySem.W.view R.prog [35]) hk ob 4000 ["PurseError", "OutOfRange", "Malformed", "check_modulus", "centred", "round_div", "centred_row", "check_lower", "row_lower", "slip", "row_slips", "reach", "lower_seen", "lower_planned", "_law_cell", "_law_is_integer", "_law_wide", "_law_values", "_law_centred", "_law_is_row", "_law_round", "_law_refuses", "_law_is_lowered", "_law_drift", "_law_told", "_law_asks", "_law_reaches", "_law_big", "_law_any", "_law_far"] w := by
  intro os
  kernel_rfl
theorem facts {P : Program} {w : World} {K : PySem.W.Frag} {h : Heap} {mg : Str → Option Value} {f : Addr} (X : K.In h) (G : h.Ns mainGlobals mg) (hfa : mg ("law" : Str) = some (.ref f)) (c : SaysV fa fn K) :
    ∃ fd : FuncData, (∀ (s : Shared) (v : Value), BindsTo s fd ⟨[v], []⟩ [("script", v)]) ∧ ∀ base : Heap, K.In base → base.Ns mainGlobals mg → FnOk P w K mg base (L2.CX P w) 7 f fd ["script"] (spF ⟨K, mg, none⟩ 1 f_law 0) := by
  have t : Tx K mg := ⟨⟨He.free_ok X G (c.d.fact 0 (f := .free "abs") rfl), He.free_ok X G (c.d.fact 1 (f := .free "len") rfl), He.free_ok X G (c.d.fact 2 (f := .free "max") rfl), He.free_ok X G (c.d.fact 3 (f := .free "min") rfl), He.free_ok X G (c.d.fact 4 (f := .free "sum") rfl), He.free_ok X G (c.d.fact 5 (f := .free "isinstance") rfl), He.free_ok X G (c.d.fact 6 (f := .free "int") rfl), He.free_ok X G (c.d.fact 7 (f := .free "bool") rfl), He.free_ok X G (c.d.fact 8 (f := .free "str") rfl), He.free_ok X G (c.d.fact 9 (f := .free "list") rfl), He.free_ok X G (c.d.fact 10 (f := .free "tuple") rfl), He.free_ok X G (c.d.fact 11 (f := .free "range") rfl), He.free_ok X G (c.d.fact 12 (f := .free "reversed") rfl), He.free_ok X G (c.d.fact 13 (f := .free "enumerate") rfl), He.free_ok X G (c.d.fact 14 (f := .free "zip") rfl), He.free_ok X G (c.d.fact 15 (f := .free "sorted") rfl), He.free_ok X G (c.d.fact 16 (f := .free "any") rfl), He.free_ok X G (c.d.fact 17 (f := .free "all") rfl), He.free_ok X G (c.d.fact 18 (f := .free "ValueError") rfl), He.free_ok X G (c.d.fact 19 (f := .free "dict") rfl)⟩, erT_of X G c.er⟩
  obtain ⟨fd_check_modulus, F_check_modulus⟩ := c.d.def_ 0 (d := d_check_modulus) rfl
  have m_check_modulus : mg "check_modulus" = some (.ref (He.fAd K ("check_modulus", none))) := He.glo_ok X G (c.d.fact 20 (f := .glo "check_modulus") rfl)
  obtain ⟨fd_centred, F_centred⟩ := c.d.def_ 1 (d := d_centred) rfl
  have m_centred : mg "centred" = some (.ref (He.fAd K ("centred", none))) := He.glo_ok X G (c.d.fact 21 (f := .glo "centred") rfl)
  obtain ⟨fd_round_div, F_round_div⟩ := c.d.def_ 2 (d := d_round_div) rfl
  have m_round_div : mg "round_div" = some (.ref (He.fAd K ("round_div", none))) := He.glo_ok X G (c.d.fact 22 (f := .glo "round_div") rfl)
  obtain ⟨fd_centred_row, F_centred_row⟩ := c.d.def_ 3 (d := d_centred_row) rfl
  have m_centred_row : mg "centred_row" = some (.ref (He.fAd K ("centred_row", none))) := He.glo_ok X G (c.d.fact 23 (f := .glo "centred_row") rfl)
  obtain ⟨fd_check_lower, F_check_lower⟩ := c.d.def_ 4 (d := d_check_lower) rfl
  have m_check_lower : mg "check_lower" = some (.ref (He.fAd K ("check_lower", none))) := He.glo_ok X G (c.d.fact 24 (f := .glo "check_lower") rfl)
  obtain ⟨fd_row_lower, F_row_lower⟩ := c.d.def_ 5 (d := d_row_lower) rfl
  have m_row_lower : mg "row_lower" = some (.ref (He.fAd K ("row_lower", none))) := He.glo_ok X G (c.d.fact 25 (f := .glo "row_lower") rfl)
  obtain ⟨fd_slip, F_slip⟩ := c.d.def_ 6 (d := d_slip) rfl
  have m_slip : mg "slip" = some (.ref (He.fAd K ("slip", none))) := He.glo_ok X G (c.d.fact 26 (f := .glo "slip") rfl)
  obtain ⟨fd_row_slips, F_row_slips⟩ := c.d.def_ 7 (d := d_row_slips) rfl
  have m_row_slips : mg "row_slips" = some (.ref (He.fAd K ("row_slips", none))) := He.glo_ok X G (c.d.fact 27 (f := .glo "row_slips") rfl)
  obtain ⟨fd_reach, F_reach⟩ := c.d.def_ 8 (d := d_reach) rfl
  have m_reach : mg "reach" = some (.ref (He.fAd K ("reach", none))) := He.glo_ok X G (c.d.fact 28 (f := .glo "reach") rfl)
  obtain ⟨fd_lower_seen, F_lower_seen⟩ := c.d.def_ 9 (d := d_lower_seen) rfl
  have m_lower_seen : mg "lower_seen" = some (.ref (He.fAd K ("lower_seen", none))) := He.glo_ok X G (c.d.fact 29 (f := .glo "lower_seen") rfl)
  obtain ⟨fd_lower_planned, F_lower_planned⟩ := c.d.def_ 10 (d := d_lower_planned) rfl
  have m_lower_planned : mg "lower_planned" = some (.ref (He.fAd K ("lower_planned", none))) := He.glo_ok X G (c.d.fact 30 (f := .glo "lower_planned") rfl)
  obtain ⟨fd__law_cell, F__law_cell⟩ := c.d.def_ 11 (d := d__law_cell) rfl
  have m__law_cell : mg "_law_cell" = some (.ref (He.fAd K ("_law_cell", none))) := He.glo_ok X G (c.d.fact 31 (f := .glo "_law_cell") rfl)
  obtain ⟨fd__law_is_integer, F__law_is_integer⟩ := c.d.def_ 12 (d := d__law_is_integer) rfl
  have m__law_is_integer : mg "_law_is_integer" = some (.ref (He.fAd K ("_law_is_integer", none))) := He.glo_ok X G (c.d.fact 32 (f := .glo "_law_is_integer") rfl)
  obtain ⟨fd__law_wide, F__law_wide⟩ := c.d.def_ 13 (d := d__law_wide) rfl
  have m__law_wide : mg "_law_wide" = some (.ref (He.fAd K ("_law_wide", none))) := He.glo_ok X G (c.d.fact 33 (f := .glo "_law_wide") rfl)
  obtain ⟨fd__law_values, F__law_values⟩ := c.d.def_ 14 (d := d__law_values) rfl
  have m__law_values : mg "_law_values" = some (.ref (He.fAd K ("_law_values", none))) := He.glo_ok X G (c.d.fact 34 (f := .glo "_law_values") rfl)
  obtain ⟨fd__law_centred, F__law_centred⟩ := c.d.def_ 15 (d := d__law_centred) rfl
  have m__law_centred : mg "_law_centred" = some (.ref (He.fAd K ("_law_centred", none))) := He.glo_ok X G (c.d.fact 35 (f := .glo "_law_centred") rfl)
  obtain ⟨fd__law_is_row, F__law_is_row⟩ := c.d.def_ 16 (d := d__law_is_row) rfl
  have m__law_is_row : mg "_law_is_row" = some (.ref (He.fAd K ("_law_is_row", none))) := He.glo_ok X G (c.d.fact 36 (f := .glo "_law_is_row") rfl)
  obtain ⟨fd__law_round, F__law_round⟩ := c.d.def_ 17 (d := d__law_round) rfl
  have m__law_round : mg "_law_round" = some (.ref (He.fAd K ("_law_round", none))) := He.glo_ok X G (c.d.fact 37 (f := .glo "_law_round") rfl)
  obtain ⟨fd__law_refuses, F__law_refuses⟩ := c.d.def_ 18 (d := d__law_refuses) rfl
  have m__law_refuses : mg "_law_refuses" = some (.ref (He.fAd K ("_law_refuses", none))) := He.glo_ok X G (c.d.fact 38 (f := .glo "_law_refuses") rfl)
  obtain ⟨fd__law_is_lowered, F__law_is_lowered⟩ := c.d.def_ 19 (d := d__law_is_lowered) rfl
  have m__law_is_lowered : mg "_law_is_lowered" = some (.ref (He.fAd K ("_law_is_lowered", none))) := He.glo_ok X G (c.d.fact 39 (f := .glo "_law_is_lowered") rfl)
  obtain ⟨fd__law_drift, F__law_drift⟩ := c.d.def_ 20 (d := d__law_drift) rfl
  have m__law_drift : mg "_law_drift" = some (.ref (He.fAd K ("_law_drift", none))) := He.glo_ok X G (c.d.fact 40 (f := .glo "_law_drift") rfl)
  obtain ⟨fd__law_told, F__law_told⟩ := c.d.def_ 21 (d := d__law_told) rfl
  have m__law_told : mg "_law_told" = some (.ref (He.fAd K ("_law_told", none))) := He.glo_ok X G (c.d.fact 41 (f := .glo "_law_told") rfl)
  obtain ⟨fd__law_asks, F__law_asks⟩ := c.d.def_ 22 (d := d__law_asks) rfl
  have m__law_asks : mg "_law_asks" = some (.ref (He.fAd K ("_law_asks", none))) := He.glo_ok X G (c.d.fact 42 (f := .glo "_law_asks") rfl)
  obtain ⟨fd__law_reaches, F__law_reaches⟩ := c.d.def_ 23 (d := d__law_reaches) rfl
  have m__law_reaches : mg "_law_reaches" = some (.ref (He.fAd K ("_law_reaches", none))) := He.glo_ok X G (c.d.fact 43 (f := .glo "_law_reaches") rfl)
  obtain ⟨fd__law_big, F__law_big⟩ := c.d.def_ 24 (d := d__law_big) rfl
  have m__law_big : mg "_law_big" = some (.ref (He.fAd K ("_law_big", none))) := He.glo_ok X G (c.d.fact 44 (f := .glo "_law_big") rfl)
  obtain ⟨fd__law_any, F__law_any⟩ := c.d.def_ 25 (d := d__law_any) rfl
  have m__law_any : mg "_law_any" = some (.ref (He.fAd K ("_law_any", none))) := He.glo_ok X G (c.d.fact 45 (f := .glo "_law_any") rfl)
  obtain ⟨fd__law_far, F__law_far⟩ := c.d.def_ 26 (d := d__law_far) rfl
  have m__law_far : mg "_law_far" = some (.ref (He.fAd K ("_law_far", none))) := He.glo_ok X G (c.d.fact 46 (f := .glo "_law_far") rfl)
  obtain ⟨fd_law, F_law⟩ := c.d.def_ 27 (d := d_law) rfl
  have e := hfa.symm.trans (He.glo_ok X G (c.d.fact 47 (f := .glo "law") rfl))
  cases e
  have g_Malformed : mg "Malformed" = some (.ref (He.ga K "Malformed")) := He.glo_ok X G (c.d.fact 48 (f := .glo "Malformed") rfl)
  have g_OutOfRange : mg "OutOfRange" = some (.ref (He.ga K "OutOfRange")) := He.glo_ok X G (c.d.fact 49 (f := .glo "OutOfRange") rfl)
  have g_PurseError : mg "PurseError" = some (.ref (He.ga K "PurseError")) := He.glo_ok X G (c.d.fact 50 (f := .glo "PurseError") rfl)
  have b := FunD.bindsA (ps := ["script"]) F_law fun _ _ _ _ _ _ us hl => match us, hl with | [_], _ => rfl
  refine ⟨fd_law, fun s v => b s [v] rfl, fun base _ _ => ?_⟩
  have o_check_modulus := ok_check_modulus (P := P) (w := w) (base := base) t g_OutOfRange  F_check_modulus
  have c_check_modulus := FnS_of m_check_modulus F_check_modulus.kp o_check_modulus (FunD.bindsN (ps := ["k"]) F_check_modulus fun _ _ _ _ _ _ us hl => match us, hl with | [_], _ => rfl)
  have o_check_lower := ok_check_lower (P := P) (w := w) (base := base) t g_OutOfRange  F_check_lower
  have c_check_lower := FnS_of m_check_lower F_check_lower.kp o_check_lower (FunD.bindsN (ps := ["modulus", "lower"]) F_check_lower fun _ _ _ _ _ _ us hl => match us, hl with | [_, _], _ => rfl)
  have o_reach := ok_reach (P := P) (w := w) (base := base) t   F_reach
  have c_reach := FnS_of m_reach F_reach.kp o_reach (FunD.bindsN (ps := ["start", "others"]) F_reach fun _ _ _ _ _ _ us hl => match us, hl with | [_, _], _ => rfl)
  have o_lower_planned := ok_lower_planned (P := P) (w := w) (base := base) t   F_lower_planned
  have c_lower_planned := FnS_of m_lower_planned F_lower_planned.kp o_lower_planned (FunD.bindsN (ps := ["modulus", "length"]) F_lower_planned fun _ _ _ _ _ _ us hl => match us, hl with | [_, _], _ => rfl)
  have o__law_cell := ok__law_cell (P := P) (w := w) (base := base) t   F__law_cell
  have c__law_cell := FnS_of m__law_cell F__law_cell.kp o__law_cell (FunD.bindsN (ps := ["script", "k"]) F__law_cell fun _ _ _ _ _ _ us hl => match us, hl with | [_, _], _ => rfl)
  have o__law_is_integer := ok__law_is_integer (P := P) (w := w) (base := base) t   F__law_is_integer
  have c__law_is_integer := FnS_of m__law_is_integer F__law_is_integer.kp o__law_is_integer (FunD.bindsN (ps := ["actual"]) F__law_is_integer fun _ _ _ _ _ _ us hl => match us, hl with | [_], _ => rfl)
  have o__law_wide := ok__law_wide (P := P) (w := w) (base := base) t   F__law_wide
  have c__law_wide := FnS_of m__law_wide F__law_wide.kp o__law_wide (FunD.bindsN (ps := ["cell"]) F__law_wide fun _ _ _ _ _ _ us hl => match us, hl with | [_], _ => rfl)
  have o__law_values := ok__law_values (P := P) (w := w) (base := base) t   F__law_values
  have c__law_values := FnS_of m__law_values F__law_values.kp o__law_values (FunD.bindsN (ps := ["cell", "count", "low", "high"]) F__law_values fun _ _ _ _ _ _ us hl => match us, hl with | [_, _, _, _], _ => rfl)
  have o__law_centred := ok__law_centred (P := P) (w := w) (base := base) t   F__law_centred
  have c__law_centred := FnS_of m__law_centred F__law_centred.kp o__law_centred (FunD.bindsN (ps := ["value", "modulus"]) F__law_centred fun _ _ _ _ _ _ us hl => match us, hl with | [_, _], _ => rfl)
  have o__law_round := ok__law_round (P := P) (w := w) (base := base) t   F__law_round
  have c__law_round := FnS_of m__law_round F__law_round.kp o__law_round (FunD.bindsN (ps := ["value", "divisor"]) F__law_round fun _ _ _ _ _ _ us hl => match us, hl with | [_, _], _ => rfl)
  have o_centred := ok_centred (P := P) (w := w) (base := base) t  c_check_modulus F_centred
  have c_centred := FnS_of m_centred F_centred.kp o_centred (FunD.bindsN (ps := ["a", "k"]) F_centred fun _ _ _ _ _ _ us hl => match us, hl with | [_, _], _ => rfl)
  have o_round_div := ok_round_div (P := P) (w := w) (base := base) t  c_check_modulus F_round_div
  have c_round_div := FnS_of m_round_div F_round_div.kp o_round_div (FunD.bindsN (ps := ["a", "b"]) F_round_div fun _ _ _ _ _ _ us hl => match us, hl with | [_, _], _ => rfl)
  have o__law_is_row := ok__law_is_row (P := P) (w := w) (base := base) t  c__law_is_integer F__law_is_row
  have c__law_is_row := FnS_of m__law_is_row F__law_is_row.kp o__law_is_row (FunD.bindsN (ps := ["found", "due"]) F__law_is_row fun _ _ _ _ _ _ us hl => match us, hl with | [_, _], _ => rfl)
  have o__law_drift := ok__law_drift (P := P) (w := w) (base := base) t  c__law_round F__law_drift
  have c__law_drift := FnS_of m__law_drift F__law_drift.kp o__law_drift (FunD.bindsN (ps := ["modulus", "row", "lower", "number"]) F__law_drift fun _ _ _ _ _ _ us hl => match us, hl with | [_, _, _, _], _ => rfl)
  have o__law_reaches := ok__law_reaches (P := P) (w := w) (base := base) t  c__law_values c_reach c__law_is_integer F__law_reaches
  have c__law_reaches := FnS_of m__law_reaches F__law_reaches.kp o__law_reaches (FunD.bindsN (ps := ["cell"]) F__law_reaches fun _ _ _ _ _ _ us hl => match us, hl with | [_], _ => rfl)
  have o__law_big := ok__law_big (P := P) (w := w) (base := base) t  c__law_values F__law_big
  have c__law_big := FnS_of m__law_big F__law_big.kp o__law_big (FunD.bindsN (ps := ["cell", "count", "low", "high"]) F__law_big fun _ _ _ _ _ _ us hl => match us, hl with | [_, _, _, _], _ => rfl)
  have o_centred_row := ok_centred_row (P := P) (w := w) (base := base) t  c_centred F_centred_row
  have c_centred_row := FnS_of m_centred_row F_centred_row.kp o_centred_row (FunD.bindsN (ps := ["modulus", "numbers", "last"]) F_centred_row fun _ _ _ _ _ _ us hl => match us, hl with | [_, _, _], _ => rfl)
  have o_slip := ok_slip (P := P) (w := w) (base := base) t  c_round_div F_slip
  have c_slip := FnS_of m_slip F_slip.kp o_slip (FunD.bindsN (ps := ["modulus", "number", "lower"]) F_slip fun _ _ _ _ _ _ us hl => match us, hl with | [_, _, _], _ => rfl)
  have o__law_any := ok__law_any (P := P) (w := w) (base := base) t  c__law_values c__law_big F__law_any
  have c__law_any := FnS_of m__law_any F__law_any.kp o__law_any (FunD.bindsN (ps := ["cell", "count", "low", "high"]) F__law_any fun _ _ _ _ _ _ us hl => match us, hl with | [_, _, _, _], _ => rfl)
  have o_row_lower := ok_row_lower (P := P) (w := w) (base := base) t  c_check_lower c_round_div c_centred_row F_row_lower
  have c_row_lower := FnS_of m_row_lower F_row_lower.kp o_row_lower (FunD.bindsN (ps := ["modulus", "row", "lower"]) F_row_lower fun _ _ _ _ _ _ us hl => match us, hl with | [_, _, _], _ => rfl)
  have o_row_slips := ok_row_slips (P := P) (w := w) (base := base) t  c_check_lower c_slip F_row_slips
  have c_row_slips := FnS_of m_row_slips F_row_slips.kp o_row_slips (FunD.bindsN (ps := ["modulus", "row", "lower"]) F_row_slips fun _ _ _ _ _ _ us hl => match us, hl with | [_, _, _], _ => rfl)
  have o_lower_seen := ok_lower_seen (P := P) (w := w) (base := base) t  c_row_slips c_reach F_lower_seen
  have c_lower_seen := FnS_of m_lower_seen F_lower_seen.kp o_lower_seen (FunD.bindsN (ps := ["modulus", "row", "lower"]) F_lower_seen fun _ _ _ _ _ _ us hl => match us, hl with | [_, _, _], _ => rfl)
  have o__law_refuses := ok__law_refuses (P := P) (w := w) (base := base) t g_Malformed g_OutOfRange g_PurseError c_row_lower c_row_slips F__law_refuses
  have c__law_refuses := FnS_of m__law_refuses F__law_refuses.kp o__law_refuses (FunD.bindsN (ps := ["modulus", "row", "lower"]) F__law_refuses fun _ _ _ _ _ _ us hl => match us, hl with | [_, _, _], _ => rfl)
  have o__law_is_lowered := ok__law_is_lowered (P := P) (w := w) (base := base) t  c_row_lower c__law_centred c__law_round c__law_is_row c__law_is_integer c_row_slips F__law_is_lowered
  have c__law_is_lowered := FnS_of m__law_is_lowered F__law_is_lowered.kp o__law_is_lowered (FunD.bindsN (ps := ["modulus", "row", "lower"]) F__law_is_lowered fun _ _ _ _ _ _ us hl => match us, hl with | [_, _, _], _ => rfl)
  have o__law_told := ok__law_told (P := P) (w := w) (base := base) t  c_row_slips F__law_told
  have c__law_told := FnS_of m__law_told F__law_told.kp o__law_told (FunD.bindsN (ps := ["modulus", "row", "lower", "number"]) F__law_told fun _ _ _ _ _ _ us hl => match us, hl with | [_, _, _, _], _ => rfl)
  have o__law_asks := ok__law_asks (P := P) (w := w) (base := base) t  c__law_drift c__law_told c_lower_seen c_lower_planned c__law_is_integer F__law_asks
  have c__law_asks := FnS_of m__law_asks F__law_asks.kp o__law_asks (FunD.bindsN (ps := ["modulus", "row", "lower"]) F__law_asks fun _ _ _ _ _ _ us hl => match us, hl with | [_, _, _], _ => rfl)
  have o__law_far := ok__law_far (P := P) (w := w) (base := base) t  c__law_big c__law_any c__law_is_lowered c_row_slips c__law_values c__law_drift c__law_told c_lower_seen c_lower_planned F__law_far
  have c__law_far := FnS_of m__law_far F__law_far.kp o__law_far (FunD.bindsN (ps := ["cell", "modulus", "lower"]) F__law_far fun _ _ _ _ _ _ us hl => match us, hl with | [_, _, _], _ => rfl)
  exact ok_law t  c__law_wide c__law_cell c__law_values c__law_centred c__law_is_lowered c__law_asks c__law_refuses c__law_far c__law_reaches F_law
end K39
open PySem PySem.W PySem.Calls PyProof.Rows
theorem PySem.Challenge.cw_noisepurse_k39_lowered_rows_holds : PySem.Challenge.rw_noisepurse_k39_lowered_rows.Holds := by
  w_on; o_law
  refine HandSHeadRun.head_any (r := OpenLaw.row PySem.Challenge.rw_noisepurse_k39_lowered_rows) (q := view (OpenLaw.row PySem.Challenge.rw_noisepurse_k39_lowered_rows).prog [35]) (H := K39.hk) (ob := K39.ob) (M := 4000) (loose := ["PurseError", "OutOfRange", "Malformed", "check_modulus", "centred", "round_div", "centred_row", "check_lower", "row_lower", "slip", "row_slips", "reach", "lower_seen", "lower_planned", "_law_cell", "_law_is_integer", "_law_wide", "_law_values", "_law_centred", "_law_is_row", "_law_round", "_law_refuses", "_law_is_lowered", "_law_drift", "_law_told", "_law_asks", "_law_reaches", "_law_big", "_law_any", "_law_far"]) (d := HandSHeadRun.topDef (OpenLaw.row PySem.Challenge.rw_noisepurse_k39_lowered_rows).prog 35) (kwd := []) K39.ob_eq
    (by kernel_rfl) (fun s => by kernel_rfl) K39.run (by kernel_rfl) (by kernel_rfl) (by kernel_rfl) (by rfl) (by first | assumption | decide +kernel) (by decide +kernel) ⟨rfl, rfl, rfl, rfl, rfl, by decide +kernel⟩ ?hw ?hc
  case hw => w_witness2
  case hc =>
    refine VL.walk_ofV (l := PySem.Challenge.rw_noisepurse_k39_lowered_rows) (n := 63) (k := 7) (x := "script") rfl (by decide) (by kernel_rfl) ⟨rfl, by decide, by decide⟩ ?F
    intro w mg fa h Y G hmg0
    obtain ⟨K, KX, c⟩ := Y
    have hmg : mg ("law" : PySem.Str) = some (.ref fa) := by
      have e : (HandSHeadRun.topDef (OpenLaw.row PySem.Challenge.rw_noisepurse_k39_lowered_rows).prog 35).name = ("law" : PySem.Str) := by kernel_rfl
      rw [← e]
      exact hmg0
    obtain ⟨fd, hb, hF⟩ := K39.facts (P := (PySem.Challenge.rw_noisepurse_k39_lowered_rows).prog) (w := w) KX G hmg c
    exact ⟨K, fd, VL.spF ⟨K, mg, none⟩ 1 K39.f_law 0, KX, c.nl, hb, fun H a ns hl hbits hS => VL.law_sp hS (K39.math ns hl hbits), hF⟩
