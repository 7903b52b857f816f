import PyProof.Rows.All
import Wide.All
import OpenK.AllK
import Wide.FinOn
import HandS.ForMost
import KE.SortData
import KE.DataEq
import HandS.IsInst
import HandS.TupAny
import HandS.Deep
import HandS.AnyAll
import HandS.Lambda
import HandS.Exc
import HandS.CallSlots
import HandS.RaiseMore
import HandS.Conv
import HandS.Zip
import HandS.Style
import HandS.Gcd
import KE.GoesMore
import KE.DataCmp
import HandS.Sort
import HandS.Star
import PyProof.WalkInts
import PyProof.TupleIter
import PyProof.Rows.SortShell
import HandS.TryOnly
import PyProof.Rows.SumAny
import HandS.Dict
import HandS.Iter
import PyProof.Rows.TupDisplay
import KE.DataMinKey
import HandS.SortKw
import HandS.ExcInit
import HandS.ExcField
import HandS.ExcIs
import KE.KExcIs
import KE.DataFind
import HandS.EndTab
import HandS.GenOver
import HandS.EndOwn
import PySem.Challenge.RW_shiftcore_k65_whole_numbers_of_cycles
set_option Elab.async false
set_option linter.all false
set_option maxRecDepth 100000
/-! Shift layer 1: values with an owner, environments, and the meaning of each construct as a plain function. No machine here. -/
namespace Sh
open PySem
abbrev D := PyData
mutual
/-- no dict in it -/
def noD : D → Bool
  | .list xs => noDs xs
  | .tuple xs => noDs xs
  | .dict _ => false
  | _ => true
def noDs : List D → Bool
  | [] => true
  | x :: xs => noD x && noDs xs
end
inductive O where
  | d (x : D) | l (xs : List D) | m (t : Bool) (kvs : List (D × D)) | g (rows : List (List D)) | k (t : Bool) (kvs : List (D × D))
abbrev Ev := List (Option O)
abbrev Ex := Ev → Option (O × Ev)
abbrev ExB := Ev → Option (Bool × Ev)
abbrev ExA := Ev → Option (List O × Ev)
/-- an operand: a value, or the slot it stands in -/
abbrev ExP := Ev → Option ((O ⊕ Nat) × Ev)
/-- an exception: its class's name; its one field -/
structure Xn where
  cls : Str
  fld : Option (Str × D)
inductive Out where
  | nx (e : Ev) | rt (r : O) (e : Ev) | bk (e : Ev) | ex (x : Xn) (e : Ev)
/-- what a def that may raise does -/
inductive FO where
  | ok (r : O) (fs : List (Option O)) | ex (x : Xn)
abbrev FnX := List O → Option FO
abbrev Sx := Ev → Option Out
abbrev Fn := List O → Option (O × List (Option O))

/-- a dict as data: its keys ints and texts; or tuples (marked) -/
def dctD (t : Bool) (kvs : List (D × D)) : D := .dict (if t = true then (.bool true, .none) :: kvs else kvs)
/-- a range as data -/
def isRngD : List (D × D) → Bool
  | (.none, _) :: _ => true
  | _ => false
@[simp] def frz : O → Option D
  | .d x => some x
  | .l xs => some (.list xs)
  | .m t kvs => some (dctD t kvs)
  | .g rows => some (.list (rows.map .list))
  | .k _ _ => none
@[simp] def frzAll : List O → Option (List D)
  | [] => some []
  | o :: r => (frz o).bind fun x => (frzAll r).bind fun xs => some (x :: xs)
@[simp] def slot (e : Ev) (j : Nat) : Option O := (e[j]?).bind id
@[simp] def res (e : Ev) : O ⊕ Nat → Option O
  | .inl o => some o
  | .inr j => slot e j
@[simp] def oSeq : O → Option (List D)
  | .d (.list xs) => some xs
  | .d (.tuple xs) => some xs
  | .l xs => some xs
  | _ => none
@[simp] def oLst : O → Option (List D)
  | .d (.list xs) => some xs
  | .l xs => some xs
  | _ => none
@[simp] def oInt : O → Option Int
  | .d (.int i) => some i
  | _ => none
@[simp] def oBool : O → Option Bool
  | .d (.bool b) => some b
  | _ => none
@[simp] def oTru : O → Option Bool
  | .d .none => some false
  | .d (.bool b) => some b
  | .d (.int i) => some (i != 0)
  | .d (.str x) => if x.length ≤ 1000 then some ((x.length : Int) != 0) else none
  | .d (.list xs) => some (!xs.isEmpty)
  | .d (.tuple xs) => some (!xs.isEmpty)
  | .l xs => some (!xs.isEmpty)
  | .m false kvs => some (!kvs.isEmpty)
  | _ => none



@[simp] def dItem (xs : List D) (i : Int) : Option D := L2.atI xs i

/-! ### expressions -/
@[simp] def eVar (j : Nat) : Ex := fun e => match slot e j with
  | some (.d x) => some (.d x, e)
  | _ => none
/-- the slot's owned list, known from now on -/
@[simp] def eFrz (j : Nat) : Ex := fun e => (slot e j).bind fun o => (frz o).bind fun x => some (.d x, e.set j (some (.d x)))
@[simp] def eC (x : D) : Ex := fun e => some (.d x, e)
@[simp] def pV (a : Ex) : ExP := fun e => (a e).bind fun p => some (.inl p.1, p.2)
@[simp] def pS (j : Nat) : ExP := fun e => (slot e j).bind fun _ => some (.inr j, e)
@[simp] def eOp1 (g : O → Option O) (a : ExP) : Ex := fun e => (a e).bind fun p => (res p.2 p.1).bind fun x => (g x).bind fun z => some (z, p.2)
@[simp] def eOp2 (g : O → O → Option O) (a b : ExP) : Ex := fun e => (a e).bind fun p => (b p.2).bind fun q => (res q.2 p.1).bind fun x => (res q.2 q.1).bind fun y => (g x y).bind fun z => some (z, q.2)
@[simp] def bOp2 (g : O → O → Option Bool) (a b : ExP) : ExB := fun e => (a e).bind fun p => (b p.2).bind fun q => (res q.2 p.1).bind fun x => (res q.2 q.1).bind fun y => (g x y).bind fun z => some (z, q.2)
@[simp] def eB (a : ExB) : Ex := fun e => (a e).bind fun p => some (.d (.bool p.1), p.2)
@[simp] def bTru (a : ExP) : ExB := fun e => (a e).bind fun p => (res p.2 p.1).bind fun x => (oTru x).bind fun k => some (k, p.2)
@[simp] def bAnd (a b : ExB) : ExB := fun e => (a e).bind fun p => if p.1 = true then b p.2 else some (false, p.2)
@[simp] def bOr (a b : ExB) : ExB := fun e => (a e).bind fun p => if p.1 = true then some (true, p.2) else b p.2
@[simp] def bNot (a : ExB) : ExB := fun e => (a e).bind fun p => some (!p.1, p.2)
/-- x and y as a value, x a bool -/
@[simp] def eAnd (a b : Ex) : Ex := fun e => (a e).bind fun p => (oBool p.1).bind fun k => if k = true then b p.2 else some (.d (.bool false), p.2)
@[simp] def eOr (a b : Ex) : Ex := fun e => (a e).bind fun p => (oBool p.1).bind fun k => if k = true then some (.d (.bool true), p.2) else b p.2
@[simp] def eNot (a : Ex) : Ex := fun e => (a e).bind fun p => (oBool p.1).bind fun k => some (.d (.bool (!k)), p.2)
@[simp] def eIf (c : ExB) (a b : Ex) : Ex := fun e => (c e).bind fun p => if p.1 = true then a p.2 else b p.2
/-- a op1 b op2 c -/
@[simp] def eChain (g g' : O → O → Option Bool) (a b c : Ex) : Ex := fun e => (a e).bind fun p => (b p.2).bind fun q => (g p.1 q.1).bind fun k =>
  if k = true then (c q.2).bind fun r => (g' q.1 r.1).bind fun k' => some (.d (.bool k'), r.2) else some (.d (.bool false), q.2)
@[simp] def bChain (g g' : O → O → Option Bool) (a b c : Ex) : ExB := fun e => (a e).bind fun p => (b p.2).bind fun q => (g p.1 q.1).bind fun k =>
  if k = true then (c q.2).bind fun r => (g' q.1 r.1).bind fun k' => some (k', r.2) else some (false, q.2)
@[simp] def aNil : ExA := fun e => some ([], e)
@[simp] def aCons (a : Ex) (r : ExA) : ExA := fun e => (a e).bind fun p => (r p.2).bind fun q => some (p.1 :: q.1, q.2)
@[simp] def eTup (as : ExA) : Ex := fun e => (as e).bind fun p => (frzAll p.1).bind fun xs => if xs.length ≤ 1000 then some (.d (.tuple xs), p.2) else none
@[simp] def eLst (as : ExA) : Ex := fun e => (as e).bind fun p => (frzAll p.1).bind fun xs => if xs.length ≤ 1000 then some (.l xs, p.2) else none

/-! ### operators -/
@[simp] def gAdd : O → O → Option O
  | .d (.int i), .d (.int j) => some (.d (.int (i + j)))
  | .d (.tuple xs), .d (.tuple ys) => if xs.length + ys.length ≤ 1000000 then some (.d (.tuple (xs ++ ys))) else none
  | x, y => (oLst x).bind fun xs => (oLst y).bind fun ys => if xs.length + ys.length ≤ 1000000 then some (.l (xs ++ ys)) else none
@[simp] def gSub : O → O → Option O
  | .d (.int i), .d (.int j) => some (.d (.int (i - j)))
  | _, _ => none
@[simp] def gMul : O → O → Option O
  | .d (.int i), .d (.int j) => if -(2 ^ 64) < i ∧ i < 2 ^ 64 ∨ -(2 ^ 64) < j ∧ j < 2 ^ 64 then some (.d (.int (i * j))) else none
  | _, _ => none
@[simp] def gDiv : O → O → Option O
  | .d (.int i), .d (.int j) => if 0 < j ∧ j < 1073741824 then some (.d (.int (i / j))) else none
  | _, _ => none
@[simp] def gMod : O → O → Option O
  | .d (.int i), .d (.int j) => if 0 < j then some (.d (.int (i % j))) else none
  | _, _ => none
@[simp] def gPow : O → O → Option O
  | .d (.int i), .d (.int j) => if 0 ≤ j ∧ j ≤ 1000000 ∧ i.natAbs < 2 ^ 64 then some (.d (.int (i ^ j.toNat))) else none
  | _, _ => none
@[simp] def gNeg : O → Option O
  | .d (.int i) => some (.d (.int (-i)))
  | _ => none
@[simp] def intsOf : List D → Option (List Int)
  | [] => some []
  | .int i :: r => (intsOf r).bind fun ns => some (i :: ns)
  | _ => none
/-- order: ints; tuples of ints -/
@[simp] def gLt : O → O → Option Bool
  | .d (.int i), .d (.int j) => some (decide (i < j))
  | .d (.tuple xs), .d (.tuple ys) => (intsOf xs).bind fun ns => (intsOf ys).bind fun ms => some (HT.lexLt ns ms)
  | _, _ => none
@[simp] def gGt : O → O → Option Bool
  | .d (.int i), .d (.int j) => some (decide (j < i))
  | .d (.tuple xs), .d (.tuple ys) => (intsOf xs).bind fun ns => (intsOf ys).bind fun ms => some (HT.lexLt ms ns)
  | _, _ => none
@[simp] def gLe : O → O → Option Bool
  | .d (.int i), .d (.int j) => some (decide (i ≤ j))
  | .d (.tuple xs), .d (.tuple ys) => (intsOf xs).bind fun ns => (intsOf ys).bind fun ms => some (!HT.lexLt ms ns)
  | _, _ => none
@[simp] def gGe : O → O → Option Bool
  | .d (.int i), .d (.int j) => some (decide (j ≤ i))
  | .d (.tuple xs), .d (.tuple ys) => (intsOf xs).bind fun ns => (intsOf ys).bind fun ms => some (!HT.lexLt ns ms)
  | _, _ => none
@[simp] def oDat : O → Option D
  | .d x => some x
  | .l xs => some (.list xs)
  | _ => none
@[simp] def gEq (x y : O) : Option Bool := (oDat x).bind fun a => (oDat y).bind fun b => if SeqAt.shaped a = true ∧ SeqAt.shaped b = true then some (PyData.eqv a b) else none
@[simp] def gNe (x y : O) : Option Bool := (gEq x y).bind fun k => some (!k)
@[simp] def gB (g : O → O → Option Bool) (x y : O) : Option O := (g x y).bind fun k => some (.d (.bool k))
@[simp] def gIsN : O → Option Bool
  | .d .none => some true
  | .d _ => some false
  | .l _ => some false
  | .m _ _ => some false
  | .g _ => none
  | .k _ _ => none
@[simp] def gIs : O → O → Option Bool
  | x, .d .none => gIsN x
  | _, _ => none
@[simp] def gIsNot (x y : O) : Option Bool := (gIs x y).bind fun k => some (!k)
def gIn (x y : O) : Option Bool := match y with
  | .d (.tuple ys) => (oDat x).bind fun a => if a.plain = true ∧ PyData.plainAll ys = true ∧ a.depth ≤ 64 then some (ys.any fun z => PyData.eqv z a) else none
  | _ => (oDat x).bind fun a => (oLst y).bind fun ys => if SeqAt.shaped a = true ∧ SeqAt.shaped (.list ys) = true then some (ys.any fun z => PyData.eqv z a) else none
def gNotIn (x y : O) : Option Bool := (gIn x y).bind fun k => some (!k)
@[simp] def gItem (x i : O) : Option O := (oSeq x).bind fun xs => (oInt i).bind fun k => (dItem xs k).bind fun z => some (.d z)
@[simp] def gLen (x : O) : Option O := match x with
  | .m false kvs => some (.d (.int kvs.length))
  | .g rows => some (.d (.int rows.length))
  | _ => (oSeq x).bind fun xs => some (.d (.int xs.length))
@[simp] def gInt : O → Option O
  | .d (.int i) => some (.d (.int i))
  | .d (.bool b) => some (.d (.int (if b then 1 else 0)))
  | _ => none

@[simp] def tyName : O → String
  | .d .none => "NoneType"
  | .d (.bool _) => "bool"
  | .d (.int _) => "int"
  | .d (.str _) => "str"
  | .d (.list _) => "list"
  | .d (.tuple _) => "tuple"
  | .d (.dict _) => "dict"
  | .l _ => "list"
  | .m _ _ => "dict"
  | .g _ => "list"
  | .k _ _ => "dict"
@[simp] def isaTy (t n : String) : Bool := t == n || (t == "bool" && n == "int")
@[simp] def gIsa (ns : List String) : O → Option O
  | .d (.dict ((.none, _) :: _)) => none
  | .d (.dict ((.bool false, _) :: _)) => none
  | .k _ _ => none
  | o => some (.d (.bool (ns.any (isaTy (tyName o)))))

/-! ### calls of the program's own defs -/
/-- an argument: a value, or the owned list that stands in a slot -/
@[simp] def aOwn (j : Nat) (r : ExA) : ExA := fun e => (slot e j).bind fun _ => (r e).bind fun q => (slot q.2 j).bind fun o => some (o :: q.1, q.2)
@[simp] def putBack : List (Option Nat) → List (Option O) → Ev → Ev
  | some j :: own, o :: os, e => putBack own os (e.set j o)
  | none :: own, _ :: os, e => putBack own os e
  | _, _, e => e
@[simp] def clearE : List (Option Nat) → Ev → Ev
  | some j :: own, e => (clearE own e).set j none
  | none :: own, e => clearE own e
  | [], e => e
@[simp] def eCall (F : Fn) (own : List (Option Nat)) (as : ExA) : Ex := fun e => (as e).bind fun p => (F p.1).bind fun q => some (q.1, putBack own q.2 (clearE own p.2))

/-! ### what is walked; comprehensions -/
abbrev ExI := Ev → Option (List D × Ev)
abbrev Tg := D → Ev → Option Ev
@[simp] def iLst (a : Ex) : ExI := fun e => (a e).bind fun p => (oLst p.1).bind fun xs => some (xs, p.2)
@[simp] def oTup : O → Option (List D)
  | .d (.tuple xs) => some xs
  | _ => none
@[simp] def iTup (a : Ex) : ExI := fun e => (a e).bind fun p => (oTup p.1).bind fun xs => some (xs, p.2)
def rangeD (lo hi : Int) : List D := (List.range (hi - lo).toNat).map fun k => .int (lo + (k : Nat))
@[simp] def iRange (a : Ex) : ExI := fun e => (a e).bind fun p => (oInt p.1).bind fun n => if -1000000 ≤ n ∧ n ≤ 1000000 then some (rangeD 0 n, p.2) else none
@[simp] def iRange2 (a b : Ex) : ExI := fun e => (a e).bind fun p => (b p.2).bind fun q => (oInt p.1).bind fun m => (oInt q.1).bind fun n =>
  if -1000000 ≤ m ∧ m ≤ 1000000 ∧ -1000000 ≤ n ∧ n ≤ 1000000 then some (rangeD m n, q.2) else none
@[simp] def tName (i : Nat) : Tg := fun x e => some (e.set i (some (.d x)))
@[simp] def tAll : List Tg → List D → Ev → Option Ev
  | [], [], e => some e
  | t :: ts, x :: xs, e => (t x e).bind fun e1 => tAll ts xs e1
  | _, _, _ => none
@[simp] def tTupl (ts : List Tg) : Tg := fun x e => match x with
  | .tuple xs => tAll ts xs e
  | _ => none
@[simp] def wipeE : Ev → List Nat → Ev
  | e, [] => e
  | e, v :: vs => (wipeE e vs).set v none
@[simp] def backE (old : Ev) : Ev → List Nat → Ev
  | e, [] => e
  | e, v :: vs => backE old (e.set v (slot old v)) vs
/-- no owned thing stands in these slots -/
@[simp] def plainE (e : Ev) : List Nat → Bool
  | [] => true
  | v :: vs => (match slot e v with
    | some (.l _) => false
    | some (.m _ _) => false
    | some (.g _) => false
    | some (.k _ _) => false
    | _ => true) && plainE e vs
@[simp] def bYes : ExB := fun e => some (true, e)
def compLoop (own : List Nat) (tg : Tg) (cond : ExB) (elt : Ex) : List D → Ev → Option (List D × Ev)
  | [], e => some ([], e)
  | x :: xs, e => (tg x e).bind fun e1 => (cond e1).bind fun p =>
    if p.1 = true then (elt p.2).bind fun q => (frz q.1).bind fun y => (compLoop own tg cond elt xs (wipeE q.2 own)).bind fun r => some (y :: r.1, r.2)
    else compLoop own tg cond elt xs (wipeE p.2 own)
@[simp] def eComp (own : List Nat) (it : ExI) (tg : Tg) (cond : ExB) (elt : Ex) : Ex := fun e => (it e).bind fun p => if p.1.length ≤ 1000000 ∧ plainE p.2 own = true then
  (compLoop own tg cond elt p.1 (wipeE p.2 own)).bind fun r => some (.l r.1, backE p.2 r.2 own) else none

/-! ### statements -/
@[simp] def sNil : Sx := fun e => some (.nx e)
@[simp] def sSeq (a b : Sx) : Sx := fun e => (a e).bind fun o => match o with
  | .nx e1 => b e1
  | r => some r
@[simp] def sSet (i : Nat) (a : Ex) : Sx := fun e => (a e).bind fun p => some (.nx (p.2.set i (some p.1)))
@[simp] def sSetF (i : Nat) (a : Ex) : Sx := fun e => (a e).bind fun p => (frz p.1).bind fun x => some (.nx (p.2.set i (some (.d x))))
@[simp] def sPar2 (i j : Nat) (a b : Ex) : Sx := fun e => (a e).bind fun p => (b p.2).bind fun q => some (.nx ((q.2.set i (some p.1)).set j (some q.1)))
@[simp] def sPar3 (i j k : Nat) (a b c : Ex) : Sx := fun e => (a e).bind fun p => (b p.2).bind fun q => (c q.2).bind fun r => some (.nx (((r.2.set i (some p.1)).set j (some q.1)).set k (some r.1)))
/-- a value known from now on -/
@[simp] def eFr (a : Ex) : Ex := fun e => (a e).bind fun p => (frz p.1).bind fun x => some (.d x, p.2)
/-- targets that take what they are given -/
abbrev TgO := O → Ev → Option Ev
@[simp] def oName (i : Nat) : TgO := fun o e => some (e.set i (some o))
@[simp] def oTg (t : Tg) : TgO := fun o e => (frz o).bind fun x => t x e
@[simp] def asgAll : List TgO → List O → Ev → Option Ev
  | [], [], e => some e
  | t :: ts, o :: os, e => (t o e).bind fun e1 => asgAll ts os e1
  | _, _, _ => none
/-- t1, t2, .. = a1, a2, .. -/
@[simp] def sParN (ts : List TgO) (as : ExA) : Sx := fun e => (as e).bind fun p => (asgAll ts p.1 p.2).bind fun e1 => some (.nx e1)
/-- target = value, the target of any form -/
@[simp] def sTg (t : Tg) (a : Ex) : Sx := fun e => (a e).bind fun p => (frz p.1).bind fun x => (t x p.2).bind fun e1 => some (.nx e1)
@[simp] def oOwn : O → Option (List D)
  | .l xs => some xs
  | _ => none
/-- x[i] as a target -/
@[simp] def oSub (j : Nat) (i : Ex) : TgO := fun v e => (slot e j).bind fun _ => (i e).bind fun q => (slot q.2 j).bind fun o => (oOwn o).bind fun xs =>
  (frz v).bind fun y => (oInt q.1).bind fun k => (L2.ixN xs.length k).bind fun n => some (q.2.set j (some (.l (xs.set n y))))
/-- x[i] = v -/
@[simp] def sSub (j : Nat) (i v : Ex) : Sx := fun e => (v e).bind fun p => (slot p.2 j).bind fun _ => (i p.2).bind fun q => (slot q.2 j).bind fun o => (oOwn o).bind fun xs =>
  (frz p.1).bind fun y => (oInt q.1).bind fun k => (L2.ixN xs.length k).bind fun n => some (.nx (q.2.set j (some (.l (xs.set n y)))))
@[simp] def sApp (j : Nat) (v : Ex) : Sx := fun e => (slot e j).bind fun o0 => (oOwn o0).bind fun _ => (v e).bind fun p => (slot p.2 j).bind fun o => (oOwn o).bind fun xs =>
  (frz p.1).bind fun y => if xs.length < 1000000 then some (.nx (p.2.set j (some (.l (xs ++ [y]))))) else none
@[simp] def sExpr (a : Ex) : Sx := fun e => (a e).bind fun p => some (.nx p.2)
@[simp] def sRet (a : Ex) : Sx := fun e => (a e).bind fun p => some (.rt p.1 p.2)
/-- return x, x an owned list -/
@[simp] def sRetS (j : Nat) : Sx := fun e => (slot e j).bind fun o => some (.rt o (e.set j none))
@[simp] def sIf (c : ExB) (a b : Sx) : Sx := fun e => (c e).bind fun p => if p.1 = true then a p.2 else b p.2
@[simp] def sBrk : Sx := fun e => some (.bk e)
@[simp] def sNev : Sx := fun _ => none
def forLoop (tg : Tg) (body : Sx) : List D → Ev → Option Out
  | [], e => some (.nx e)
  | x :: xs, e => (tg x e).bind fun e1 => (body e1).bind fun o => match o with
    | .nx e2 => forLoop tg body xs e2
    | .bk e2 => some (.nx e2)
    | .rt r e2 => some (.rt r e2)
    | .ex x e2 => some (.ex x e2)
@[simp] def sFor (it : ExI) (tg : Tg) (body : Sx) : Sx := fun e => (it e).bind fun p => forLoop tg body p.1 p.2
def whileLoop (c : ExB) (body : Sx) : Nat → Ev → Option Out
  | 0, _ => none
  | n + 1, e => (c e).bind fun p => if p.1 = true then (body p.2).bind fun o => match o with
    | .nx e2 => whileLoop c body n e2
    | .bk e2 => some (.nx e2)
    | .rt r e2 => some (.rt r e2)
    | .ex x e2 => some (.ex x e2)
    else some (.nx p.2)
@[simp] def sWhile (n : Nat) (c : ExB) (body : Sx) : Sx := fun e => whileLoop c body n e

def FU : Nat := 1000000000
@[simp] def fins (lk : Nat → Bool) (e : Ev) : Nat → List (Option O)
  | 0 => []
  | n + 1 => fins lk e n ++ [if lk n = true then slot e n else none]
/-- a def: n slots, np parameters; lk: the parameters that no row of it stores to -/
def runDef (n np : Nat) (lk : Nat → Bool) (body : Sx) : Fn := fun os => if os.length = np then (body (os.map some ++ List.replicate (n - np) none)).bind fun o => match o with
  | .rt r e => some (r, fins lk e np)
  | .nx e => some (.d .none, fins lk e np)
  | .bk _ => none
  | .ex _ _ => none
  else none
/-- a def that may raise -/
def runDefX (n np : Nat) (lk : Nat → Bool) (body : Sx) : FnX := fun os => if os.length = np then (body (os.map some ++ List.replicate (n - np) none)).bind fun o => match o with
  | .rt r e => some (.ok r (fins lk e np))
  | .nx e => some (.ok (.d .none) (fins lk e np))
  | .bk _ => none
  | .ex x _ => some (.ex x)
  else none
/-- .. where it does not raise -/
def okF (f : FnX) : Fn := fun os => match f os with
  | some (.ok r fs) => some (r, fs)
  | _ => none
end Sh

/-! Shift layer 1b: the meaning of more constructs. -/
namespace Sh
open PySem
/-- xs[lo:hi] -/
def cutD (xs : List D) (lo hi : Option Int) : List D := (xs.drop (HT.sIx xs.length 0 lo)).take (HT.sIx xs.length xs.length hi - HT.sIx xs.length 0 lo)
@[simp] def gList (x : O) : Option O := (oSeq x).bind fun xs => some (.l xs)
@[simp] def gTuple (x : O) : Option O := (oSeq x).bind fun xs => if xs.length ≤ 1000000 then some (.d (.tuple xs)) else none
@[simp] def eListR (i : ExI) : Ex := fun e => (i e).bind fun p => if p.1.length ≤ 1000000 then some (.l p.1, p.2) else none
@[simp] def eTupR (i : ExI) : Ex := fun e => (i e).bind fun p => if p.1.length ≤ 1000000 then some (.d (.tuple p.1), p.2) else none
abbrev ExH := Ev → Option (Option Int × Ev)
@[simp] def hNo : ExH := fun e => some (none, e)
@[simp] def hAt (a : Ex) : ExH := fun e => (a e).bind fun p => (oInt p.1).bind fun i => some (some i, p.2)
@[simp] def gCut (x : O) (lo hi : Option Int) : Option O := match x with
  | .d (.list xs) => some (.l (cutD xs lo hi))
  | .l xs => some (.l (cutD xs lo hi))
  | .d (.tuple xs) => if xs.length ≤ 1000000 then some (.d (.tuple (cutD xs lo hi))) else none
  | _ => none
@[simp] def eCut (a : ExP) (lo hi : ExH) : Ex := fun e => (a e).bind fun p => (lo p.2).bind fun q => (hi q.2).bind fun r => (res r.2 p.1).bind fun x => (gCut x q.1 r.1).bind fun z => some (z, r.2)
@[simp] def gRev (x : O) : Option O := (oLst x).bind fun xs => some (.l xs.reverse)
def enumD (xs : List D) : List D := xs.zipIdx.map fun p => .tuple [.int (p.2 : Nat), p.1]
@[simp] def iEnumL (a : Ex) : ExI := fun e => (a e).bind fun p => (oLst p.1).bind fun xs => some (enumD xs, p.2)
@[simp] def iEnumT (a : Ex) : ExI := fun e => (a e).bind fun p => (oTup p.1).bind fun xs => some (enumD xs, p.2)
def zipD (xs ys : List D) : List D := (xs.zip ys).map fun p => .tuple [p.1, p.2]
@[simp] def iZipL (a b : Ex) : ExI := fun e => (a e).bind fun p => (b p.2).bind fun q => (oLst p.1).bind fun xs => (oLst q.1).bind fun ys => some (zipD xs ys, q.2)
@[simp] def iZipT (a b : Ex) : ExI := fun e => (a e).bind fun p => (b p.2).bind fun q => (oTup p.1).bind fun xs => (oTup q.1).bind fun ys => some (zipD xs ys, q.2)
@[simp] def gMax2 : O → O → Option O
  | .d (.int i), .d (.int j) => some (.d (.int (if j > i then j else i)))
  | _, _ => none
@[simp] def gMin2 : O → O → Option O
  | .d (.int i), .d (.int j) => some (.d (.int (if j < i then j else i)))
  | _, _ => none
@[simp] def gAbs : O → Option O
  | .d (.int i) => some (.d (.int (if i < 0 then -i else i)))
  | _ => none
@[simp] def gGcd : O → O → Option O
  | .d (.int i), .d (.int j) => some (.d (.int ((Nat.gcd i.natAbs j.natAbs : Nat) : Int)))
  | _, _ => none
@[simp] def gSum (x : O) : Option O := (oLst x).bind fun xs => (intsOf xs).bind fun ns => some (.d (.int ns.sum))
def allAlikeB (ds : List D) : Bool := ds.all fun d => ds.all fun d' => PySem.W.alike d d'
def sortableB (ds : List D) : Bool := (ds.all fun d => match d with
  | .tuple (_ :: _) => true
  | _ => false) || ds.all fun d => match d with
  | .none => false
  | .tuple _ => false
  | _ => true
def sortD (ds : List D) : List D := ds.mergeSort (PySem.W.dataLe false id)
@[simp] def gSorted (x : O) : Option O := (oLst x).bind fun xs => if allAlikeB xs = true ∧ sortableB xs = true ∧ xs.length ≤ 1000000 ∧ (xs.all fun d => decide (d.depth ≤ 64)) = true ∧ noDs xs = true then some (.l (sortD xs)) else none
end Sh

/-! Shift layer 2: what the plain values are in the machine's heap. -/
namespace Sh
open PySem PySem.Spec PyProof.Rows L2
abbrev St := L2.St
def keyD : Key → D
  | .inl i => .int i
  | .inr x => .str x

section
variable {K : PySem.W.Frag} {G G' : Hp}
theorem same_sqT {a : Addr} {xs : List V} (e : Same G G') (h : SqT K G a xs) : SqT K G' a xs := by
  rcases h with (h | ⟨o, h⟩) | h
  · exact .inl (.inl (e _ _ h))
  · exact .inl (.inr ⟨o, e _ _ h⟩)
  · exact .inr h
mutual
/-- as Dp, a tuple stands as itself -/
inductive Dq (K : PySem.W.Frag) (H : Hp) : V → PyData → Prop
  | non : Dq K H .non .none
  | bl (b : Bool) : Dq K H (.bl b) (.bool b)
  | int (i : Int) : Dq K H (.int i) (.int i)
  | str (x : Str) : Dq K H (.str x) (.str x)
  | lst {a : Addr} {xs : List V} {ds : List PyData} : SqL K H a xs → DqAll K H xs ds → Dq K H (.ref a) (.list ds)
  | tup {a : Addr} {xs : List V} {ds : List PyData} : H a = some (.tup xs) → DqAll K H xs ds → Dq K H (.ref a) (.tuple ds)
  /-- a dict that is not changed any more -/
  | dcK {a : Addr} {ks : List (Key × V)} {kvs : List (PyData × PyData)} : H a = some (.dK ks) → DqK K H ks kvs → Dq K H (.ref a) (.dict kvs)
  | dcT {a : Addr} {ks : List (List Key × V)} {kvs : List (PyData × PyData)} : H a = some (.dT ks) → DqT K H ks kvs → Dq K H (.ref a) (.dict ((.bool true, .none) :: kvs))
  /-- a thing by its address -/
  | rf {a : Addr} : Dq K H (.ref a) (.dict [(.bool false, .int (a : Nat))])
  /-- a range lo .. hi - 1 -/
  | rng {a : Addr} {lo hi : Int} : H a = some (.rng lo hi) → Dq K H (.ref a) (.dict [(.none, .int lo), (.none, .int hi)])
inductive DqK (K : PySem.W.Frag) (H : Hp) : List (Key × V) → List (PyData × PyData) → Prop
  | nil : DqK K H [] []
  | cons {k : Key} {v : V} {d : PyData} {ks : List (Key × V)} {kvs : List (PyData × PyData)} : Dq K H v d → DqK K H ks kvs → DqK K H ((k, v) :: ks) ((keyD k, d) :: kvs)
inductive DqT (K : PySem.W.Frag) (H : Hp) : List (List Key × V) → List (PyData × PyData) → Prop
  | nil : DqT K H [] []
  | cons {k : List Key} {v : V} {d : PyData} {ks : List (List Key × V)} {kvs : List (PyData × PyData)} : Dq K H v d → DqT K H ks kvs → DqT K H ((k, v) :: ks) ((.tuple (k.map keyD), d) :: kvs)
inductive DqAll (K : PySem.W.Frag) (H : Hp) : List V → List PyData → Prop
  | nil : DqAll K H [] []
  | cons {v : V} {vs : List V} {d : PyData} {ds : List PyData} : Dq K H v d → DqAll K H vs ds → DqAll K H (v :: vs) (d :: ds)
end
theorem same_tup {a : Addr} {xs : List V} (e : Same G G') (h : G a = some (.tup xs)) : SqT K G' a xs := .inl (.inl (e _ _ h))
mutual
theorem noD_of : ∀ d : D, d.canLay0 = true → noD d = true
  | .none, _ => by simp [noD]
  | .bool _, _ => by simp [noD]
  | .int _, _ => by simp [noD]
  | .str _, _ => by simp [noD]
  | .list xs, h => by
    rw [noD]
    rw [PyData.canLay0] at h
    exact noDs_of xs h
  | .tuple xs, h => by
    rw [noD]
    rw [PyData.canLay0] at h
    exact noDs_of xs h
  | .dict _, h => by
    rw [PyData.canLay0] at h
    cases h
theorem noDs_of : ∀ ds : List D, PyData.canLayAll0 ds = true → noDs ds = true
  | [], _ => by simp [noDs]
  | x :: xs, h => by
    rw [PyData.canLayAll0, Bool.and_eq_true] at h
    rw [noDs, noD_of x h.1, noDs_of xs h.2]
    rfl
end
theorem noD_shaped {d : D} (h : SeqAt.shaped d = true) : noD d = true := noD_of d (SeqAt.canLay_of_shaped h)
mutual
theorem Dq.dp : ∀ {v : V} {d : D}, Dq K G v d → noD d = true → Dp K G v d
  | _, _, .non, _ => .non
  | _, _, .bl b, _ => .bl b
  | _, _, .int i, _ => .int i
  | _, _, .str x, _ => .str x
  | _, _, .lst h hs, n => .lst h (hs.dp (by rw [noD] at n; exact n))
  | _, _, .tup h hs, n => .tup (.inl (.inl h)) (hs.dp (by rw [noD] at n; exact n))
  | _, _, .dcK _ _, n => by rw [noD] at n; cases n
  | _, _, .dcT _ _, n => by rw [noD] at n; cases n
  | _, _, .rf, n => by rw [noD] at n; cases n
  | _, _, .rng _, n => by rw [noD] at n; cases n
theorem DqAll.dp : ∀ {vs : List V} {ds : List D}, DqAll K G vs ds → noDs ds = true → DpAll K G vs ds
  | _, _, .nil, _ => .nil
  | _, _, .cons h hs, n => by
    rw [noDs, Bool.and_eq_true] at n
    exact .cons (h.dp n.1) (hs.dp n.2)
end
mutual
theorem dp_mono (e : Same G G') : ∀ (v : V) (d : D), Dq K G v d → Dq K G' v d
  | _, _, .non => .non
  | _, _, .bl b => .bl b
  | _, _, .int i => .int i
  | _, _, .str x => .str x
  | _, _, .lst h hs => .lst (e.seq h) (dps_mono e _ _ hs)
  | _, _, .tup h hs => .tup (e _ _ h) (dps_mono e _ _ hs)
  | _, _, .dcK h hs => .dcK (e _ _ h) (dqk_mono e _ _ hs)
  | _, _, .dcT h hs => .dcT (e _ _ h) (dqt_mono e _ _ hs)
  | _, _, .rf => .rf
  | _, _, .rng h => .rng (e _ _ h)
theorem dqk_mono (e : Same G G') : ∀ (ks : List (Key × V)) (kvs : List (D × D)), DqK K G ks kvs → DqK K G' ks kvs
  | _, _, .nil => .nil
  | _, _, .cons h hs => .cons (dp_mono e _ _ h) (dqk_mono e _ _ hs)
theorem dqt_mono (e : Same G G') : ∀ (ks : List (List Key × V)) (kvs : List (D × D)), DqT K G ks kvs → DqT K G' ks kvs
  | _, _, .nil => .nil
  | _, _, .cons h hs => .cons (dp_mono e _ _ h) (dqt_mono e _ _ hs)
theorem dps_mono (e : Same G G') : ∀ (vs : List V) (ds : List D), DqAll K G vs ds → DqAll K G' vs ds
  | _, _, .nil => .nil
  | _, _, .cons h hs => .cons (dp_mono e _ _ h) (dps_mono e _ _ hs)
end
theorem dps_len : ∀ {vs : List V} {ds : List D}, DqAll K G vs ds → vs.length = ds.length
  | _, _, .nil => rfl
  | _, _, .cons _ hs => by rw [List.length_cons, List.length_cons, dps_len hs]
theorem dps_get : ∀ {vs : List V} {ds : List D} {i : Nat} {d : D}, DqAll K G vs ds → ds[i]? = some d → ∃ v, vs[i]? = some v ∧ Dq K G v d
  | _, _, _, _, .nil, e => by simp at e
  | _, _, 0, _, .cons h _, e => by
    simp at e
    subst e
    exact ⟨_, rfl, h⟩
  | _, _, i + 1, d, .cons _ hs, e => by
    obtain ⟨v, a, b⟩ := dps_get (i := i) (d := d) hs (by simpa using e)
    exact ⟨v, by simpa using a, b⟩
theorem dps_app : ∀ {vs ws : List V} {ds es : List D}, DqAll K G vs ds → DqAll K G ws es → DqAll K G (vs ++ ws) (ds ++ es)
  | _, _, _, _, .nil, h => h
  | _, _, _, _, .cons h hs, h' => .cons h (dps_app hs h')
theorem dps_set : ∀ {vs : List V} {ds : List D} {v : V} {d : D} (i : Nat), DqAll K G vs ds → Dq K G v d → DqAll K G (vs.set i v) (ds.set i d)
  | _, _, _, _, _, .nil, _ => .nil
  | _, _, _, _, 0, .cons _ hs, h => .cons h hs
  | _, _, _, _, i + 1, .cons h0 hs, h => .cons h0 (dps_set i hs h)
end

abbrev Cell := Addr × HO
/-- a dict's pairs -/
def KVr (K : PySem.W.Frag) (G : Hp) : List (D × D) → List (Key × V) → Prop := Paired fun p q => p.1 = keyD q.1 ∧ Dq K G q.2 p.2
/-- a dict's pairs, the keys flat tuples -/
def KVt (K : PySem.W.Frag) (G : Hp) : List (D × D) → List (List Key × V) → Prop := Paired fun p q => p.1 = .tuple (q.1.map keyD) ∧ Dq K G q.2 p.2
inductive DR (K : PySem.W.Frag) (G : Hp) : Bool → List (D × D) → HO → Prop where
  | k {kvs : List (D × D)} {ks : List (Key × V)} : KVr K G kvs ks → DR K G false kvs (.dK ks)
  | t {kvs : List (D × D)} {ks : List (List Key × V)} : KVt K G kvs ks → DR K G true kvs (.dT ks)
/-- the rows of an owned list of owned lists -/
inductive RowsR (K : PySem.W.Frag) (G : Hp) : List (List D) → List V → List Cell → Prop where
  | nil : RowsR K G [] [] []
  | cons {xs : List D} {ws : List V} {q : Addr} {rows : List (List D)} {vs : List V} {c : List Cell} : DqAll K G ws xs → RowsR K G rows vs c → RowsR K G (xs :: rows) (.ref q :: vs) ((q, .lst ws) :: c)
inductive OT (K : PySem.W.Frag) (G : Hp) : O → V → List Cell → Prop where
  | d {x : D} {v : V} : Dq K G v x → OT K G (.d x) v []
  | l {xs : List D} {p : Addr} {vs : List V} : DqAll K G vs xs → OT K G (.l xs) (.ref p) [(p, .lst vs)]
  | m {t : Bool} {kvs : List (D × D)} {p : Addr} {u : HO} : DR K G t kvs u → OT K G (.m t kvs) (.ref p) [(p, u)]
  | g {rows : List (List D)} {p : Addr} {vs : List V} {c : List Cell} : RowsR K G rows vs c → OT K G (.g rows) (.ref p) ((p, .lst vs) :: c)
  /-- a dict that is walked -/
  | k {t : Bool} {kvs : List (D × D)} {p : Addr} {od : Obj} {u : HO} : DR K G t kvs u → G p = some (.frz od u) → OT K G (.k t kvs) (.ref p) []
inductive RelS (K : PySem.W.Frag) (G : Hp) : Ev → St → List Cell → Prop where
  | nil : RelS K G [] [] []
  | none {e : Ev} {σ : St} {x : Option V} {L : List Cell} : RelS K G e σ L → RelS K G (none :: e) (x :: σ) L
  | some {o : O} {v : V} {c : List Cell} {e : Ev} {σ : St} {L : List Cell} : OT K G o v c → RelS K G e σ L → RelS K G (some o :: e) (some v :: σ) (c ++ L)
/-- the tables of code objects (of generator expressions; of lambdas of a name); what is known besides -/
abbrev TabsT := List (Addr × Option Str) × List (Addr × HO)
def TabOk (H : Hp) : Addr × Option Str → Prop
  | (P, none) => GxR.TabG H P
  | (P, some q) => LamX.TabS H P q
/-- what an owned thing is not -/
def OkO (o : HO) : Prop := (∀ xs, o ≠ .tup xs) ∧ (∀ φ, o ≠ .ext φ) ∧ ∀ ps, o ≠ .tbl ps
/-- G: what stands for ever; L: what is owned; T: the tables of code objects -/
structure Sep (T : TabsT) (G H : Hp) (L : List Cell) : Prop where
  nd : (L.map (·.1)).Nodup
  at_ : ∀ c ∈ L, H c.1 = some c.2 ∧ G c.1 = none
  same : Same G H
  tab : ∀ P ∈ T.1, TabOk H P ∧ G P.1 = none ∧ ∀ c ∈ L, c.1 ≠ P.1
  uq : ∀ P ∈ T.1, ∀ P' ∈ T.1, P.1 = P'.1 → P = P'
  kn : ∀ p ∈ T.2, G p.1 = some p.2 ∧ ∀ o u, p.2 ≠ .frz o u
  nt : ∀ c ∈ L, OkO c.2
/-- L' is a part of L -/
def Sub (L' L : List Cell) : Prop := ∃ Ld, L.Perm (L' ++ Ld)

section
variable {K : PySem.W.Frag} {T : TabsT} {G G' H H' : Hp} {L L' L'' : List Cell}
theorem Sub.refl : Sub L L := ⟨[], by simp⟩
theorem Sub.trans (a : Sub L' L) (b : Sub L'' L') : Sub L'' L := by
  obtain ⟨d, h⟩ := a
  obtain ⟨d', h'⟩ := b
  refine ⟨d' ++ d, h.trans ?_⟩
  rw [← List.append_assoc]
  exact h'.append_right d
theorem Sub.perm (h : L.Perm L') : Sub L' L := ⟨[], by simpa using h⟩
theorem Sub.right {Lx : List Cell} (a : Sub L' L) : Sub (L' ++ Lx) (L ++ Lx) := by
  obtain ⟨d, h⟩ := a
  refine ⟨d, (h.append_right Lx).trans ?_⟩
  rw [List.append_assoc, List.append_assoc]
  exact (List.perm_append_comm).append_left L'
theorem Sub.left {Lx : List Cell} (a : Sub L' L) : Sub (Lx ++ L') (Lx ++ L) := by
  obtain ⟨d, h⟩ := a
  refine ⟨d, (h.append_left Lx).trans ?_⟩
  rw [List.append_assoc]
theorem Sub.drop {Lx : List Cell} : Sub L (Lx ++ L) := ⟨Lx, List.perm_append_comm⟩
theorem Sub.dropR {Lx : List Cell} : Sub L (L ++ Lx) := ⟨Lx, .refl _⟩
theorem Sub.mem (a : Sub L' L) {c : Cell} (h : c ∈ L') : c ∈ L := by
  obtain ⟨d, p⟩ := a
  exact p.mem_iff.mpr (List.mem_append_left _ h)
theorem Sep.sub (s : Sep T G H L) (a : Sub L' L) : Sep T G H L' := by
  refine ⟨?_, fun c h => s.at_ c (a.mem h), s.same, fun P hP => ⟨(s.tab P hP).1, (s.tab P hP).2.1, fun c h => (s.tab P hP).2.2 c (a.mem h)⟩, s.uq, s.kn, fun c h => s.nt c (a.mem h)⟩
  obtain ⟨d, p⟩ := a
  have h := (p.map (·.1)).nodup_iff.mp s.nd
  rw [List.map_append] at h
  exact (List.nodup_append.mp h).1
theorem tab_at {P : Addr × Option Str} (t : TabOk H P) : ∃ ps, H P.1 = some (.tbl ps) := by
  obtain ⟨P, q⟩ := P
  cases q with
  | none =>
    obtain ⟨ps, h, _⟩ := t
    exact ⟨ps, h⟩
  | some q =>
    obtain ⟨ps, h, _⟩ := t
    exact ⟨ps, h⟩
theorem tab_upd {P : Addr × Option Str} {p : Addr} {o : HO} (h : P.1 ≠ p) (hx : ∀ φ, H p ≠ some (.ext φ)) (t : TabOk H P) : TabOk (upd H p o) P := by
  obtain ⟨P, q⟩ := P
  cases q with
  | none =>
    obtain ⟨ps, q, r⟩ := t
    exact ⟨ps, by rw [upd_ne h]; exact q, r⟩
  | some q =>
    obtain ⟨ps, h1, h2, h3⟩ := t
    refine ⟨ps, by rw [upd_ne h]; exact h1, h2, fun pos cv hc => ?_⟩
    obtain ⟨c, e1, e2⟩ := h3 pos cv hc
    refine ⟨c, e1, ?_⟩
    rw [upd_ne]
    · exact e2
    · intro z
      rw [z] at e2
      exact hx _ e2
theorem Sep.fresh (s : Sep T G H L) {p : Addr} (h : H p = none) : G p = none ∧ (∀ c ∈ L, c.1 ≠ p) ∧ ∀ P ∈ T.1, P.1 ≠ p := by
  refine ⟨s.same.free h, fun c hc e => ?_, fun P hP e => ?_⟩
  · have := (s.at_ c hc).1
    rw [e, h] at this
    cases this
  · obtain ⟨ps, q⟩ := tab_at (s.tab P hP).1
    rw [e, h] at q
    cases q
theorem same_new {p : Addr} {o : HO} (h : G p = none) : Same G (upd G p o) := fun b x e => by
  rw [upd_ne (ne_of_none e h)]
  exact e
theorem same_upd2 {p : Addr} {o : HO} (s : Same G H) (h : G p = none) : Same G (upd H p o) := fun b x e => by
  rw [upd_ne (ne_of_none e h)]
  exact s _ _ e
theorem Sep.knU (s : Sep T G H L) {p : Addr} {o : HO} (h : G p = none) : ∀ q ∈ T.2, upd G p o q.1 = some q.2 ∧ ∀ o u, q.2 ≠ .frz o u := fun q hq => by
  obtain ⟨a, b⟩ := s.kn q hq
  refine ⟨?_, b⟩
  rw [upd_ne]
  · exact a
  · intro z
    rw [z, h] at a
    cases a
theorem no_ext {p : Addr} (h : H p = none) : ∀ φ, H p ≠ some (.ext φ) := fun φ z => by
  rw [h] at z
  cases z
/-- a new object that stands for ever -/
theorem Sep.frozen (s : Sep T G H L) {p : Addr} {o : HO} (h : H p = none) : Sep T (upd G p o) (upd H p o) L := by
  obtain ⟨g0, l0, t0⟩ := s.fresh h
  refine ⟨s.nd, fun c hc => ?_, fun b x e => ?_, fun P hP => ?_, s.uq, s.knU g0, s.nt⟩
  · rw [upd_ne (l0 c hc), upd_ne (l0 c hc)]
    exact s.at_ c hc
  · by_cases hb : b = p
    · subst hb
      rw [upd_same] at e ⊢
      exact e
    · rw [upd_ne hb] at e ⊢
      exact s.same _ _ e
  · obtain ⟨a, b, c⟩ := s.tab P hP
    exact ⟨tab_upd (t0 P hP) (no_ext h) a, by rw [upd_ne (t0 P hP)]; exact b, c⟩
theorem okO_by {o : HO} (h1 : ∀ xs, o ≠ .tup xs) (h2 : ∀ φ, o ≠ .ext φ) (h3 : ∀ ps, o ≠ .tbl ps) : OkO o := ⟨h1, h2, h3⟩
/-- a new object that is owned -/
theorem Sep.owned (s : Sep T G H L) {p : Addr} {o : HO} (h : H p = none) (hn : OkO o := by exact okO_by (by intro _ z; cases z) (by intro _ z; cases z) (by intro _ z; cases z)) : Sep T G (upd H p o) ((p, o) :: L) := by
  obtain ⟨g0, l0, t0⟩ := s.fresh h
  refine ⟨?_, fun c hc => ?_, same_upd2 s.same g0, fun P hP => ?_, s.uq, s.kn, fun c hc => ?_⟩
  · rw [List.map_cons, List.nodup_cons]
    refine ⟨fun hm => ?_, s.nd⟩
    obtain ⟨c, hc, e⟩ := List.mem_map.mp hm
    exact l0 c hc e
  · rcases List.mem_cons.mp hc with e | hc
    · subst e
      exact ⟨upd_same, g0⟩
    · rw [upd_ne (l0 c hc)]
      exact s.at_ c hc
  · obtain ⟨a, b, c⟩ := s.tab P hP
    refine ⟨tab_upd (t0 P hP) (no_ext h) a, b, fun c' hc => ?_⟩
    rcases List.mem_cons.mp hc with e | hc
    · subst e
      exact (t0 P hP).symm
    · exact c c' hc
  · rcases List.mem_cons.mp hc with e | hc
    · subst e
      exact hn
    · exact s.nt c hc
/-- an owned object changed -/
theorem Sep.change {p : Addr} {o o' : HO} (s : Sep T G H ((p, o) :: L)) (hn : OkO o' := by exact okO_by (by intro _ z; cases z) (by intro _ z; cases z) (by intro _ z; cases z)) : Sep T G (upd H p o') ((p, o') :: L) := by
  have nd := s.nd
  rw [List.map_cons, List.nodup_cons] at nd
  have hne : ∀ c ∈ L, c.1 ≠ p := fun c hc e => nd.1 (List.mem_map.mpr ⟨c, hc, e⟩)
  obtain ⟨hp, g0⟩ := s.at_ (p, o) List.mem_cons_self
  have hx : ∀ φ, H p ≠ some (.ext φ) := fun φ z => (s.nt (p, o) List.mem_cons_self).2.1 φ (Option.some.inj (hp.symm.trans z))
  refine ⟨by rw [List.map_cons, List.nodup_cons]; exact nd, fun c hc => ?_, same_upd2 s.same g0, fun P hP => ?_, s.uq, s.kn, fun c hc => ?_⟩
  · rcases List.mem_cons.mp hc with e | hc
    · subst e
      exact ⟨upd_same, g0⟩
    · rw [upd_ne (hne c hc)]
      exact s.at_ c (List.mem_cons_of_mem _ hc)
  · obtain ⟨a, b, c⟩ := s.tab P hP
    have hp : P.1 ≠ p := (c _ List.mem_cons_self).symm
    refine ⟨tab_upd hp hx a, b, fun c' hc => ?_⟩
    rcases List.mem_cons.mp hc with e | hc
    · subst e
      exact hp.symm
    · exact c c' (List.mem_cons_of_mem _ hc)
  · rcases List.mem_cons.mp hc with e | hc
    · subst e
      exact hn
    · exact s.nt c (List.mem_cons_of_mem _ hc)
/-- an owned object is known from now on -/
theorem Sep.freeze {p : Addr} {o : HO} (s : Sep T G H ((p, o) :: L)) : Sep T (upd G p o) H L ∧ Same G (upd G p o) := by
  have nd := s.nd
  rw [List.map_cons, List.nodup_cons] at nd
  have hne : ∀ c ∈ L, c.1 ≠ p := fun c hc e => nd.1 (List.mem_map.mpr ⟨c, hc, e⟩)
  obtain ⟨h0, g0⟩ := s.at_ (p, o) List.mem_cons_self
  refine ⟨⟨nd.2, fun c hc => ?_, fun b x e => ?_, fun P hP => ?_, s.uq, s.knU g0, fun c hc => s.nt c (List.mem_cons_of_mem _ hc)⟩, same_new g0⟩
  · rw [upd_ne (hne c hc)]
    exact s.at_ c (List.mem_cons_of_mem _ hc)
  · by_cases hb : b = p
    · subst hb
      rw [upd_same] at e
      rw [← e]
      exact h0
    · rw [upd_ne hb] at e
      exact s.same _ _ e
  · obtain ⟨a, b, c⟩ := s.tab P hP
    have hp : P.1 ≠ p := (c _ List.mem_cons_self).symm
    exact ⟨a, by rw [upd_ne hp]; exact b, fun c' hc => c c' (List.mem_cons_of_mem _ hc)⟩

theorem kvr_dq : ∀ {kvs : List (D × D)} {ks : List (Key × V)}, KVr K G kvs ks → DqK K G ks kvs
  | _, _, .nil => .nil
  | (d, x) :: kvs, (k, v) :: ks, .cons h hs => by
    obtain ⟨h1, h2⟩ := h
    simp only at h1 h2
    subst h1
    exact .cons h2 (kvr_dq hs)
theorem kvt_dq : ∀ {kvs : List (D × D)} {ks : List (List Key × V)}, KVt K G kvs ks → DqT K G ks kvs
  | _, _, .nil => .nil
  | (d, x) :: kvs, (k, v) :: ks, .cons h hs => by
    obtain ⟨h1, h2⟩ := h
    simp only at h1 h2
    subst h1
    exact .cons h2 (kvt_dq hs)
theorem dq_kvr : ∀ {ks : List (Key × V)} {kvs : List (D × D)}, DqK K G ks kvs → KVr K G kvs ks
  | _, _, .nil => .nil
  | _, _, .cons h hs => .cons ⟨rfl, h⟩ (dq_kvr hs)
theorem dq_kvt : ∀ {ks : List (List Key × V)} {kvs : List (D × D)}, DqT K G ks kvs → KVt K G kvs ks
  | _, _, .nil => .nil
  | _, _, .cons h hs => .cons ⟨rfl, h⟩ (dq_kvt hs)
theorem dqk_bool {ks : List (Key × V)} {x : D} {b : Bool} {kvs : List (D × D)} (h : DqK K G ks ((.bool b, x) :: kvs)) : False := by
  generalize e : ((PyData.bool b, x) :: kvs) = l at h
  cases h with
  | nil => cases e
  | @cons k => cases k <;> simp [keyD] at e
theorem dqk_none {ks : List (Key × V)} {x : D} {kvs : List (D × D)} (h : DqK K G ks ((.none, x) :: kvs)) : False := by
  generalize e : ((PyData.none, x) :: kvs) = l at h
  cases h with
  | nil => cases e
  | @cons k => cases k <;> simp [keyD] at e
theorem dr_dq {t : Bool} {kvs : List (D × D)} {u : HO} {p : Addr} (h : DR K G t kvs u) (hp : G p = some u) : Dq K G (.ref p) (dctD t kvs) := by
  unfold dctD
  cases h with
  | k h => exact .dcK hp (kvr_dq h)
  | t h => exact .dcT hp (kvt_dq h)
theorem kvr_mono (e : Same G G') {kvs : List (D × D)} {ks : List (Key × V)} (h : KVr K G kvs ks) : KVr K G' kvs ks := Paired.mapP h fun _ _ z => ⟨z.1, dp_mono e _ _ z.2⟩
theorem kvt_mono (e : Same G G') {kvs : List (D × D)} {ks : List (List Key × V)} (h : KVt K G kvs ks) : KVt K G' kvs ks := Paired.mapP h fun _ _ z => ⟨z.1, dp_mono e _ _ z.2⟩
theorem dr_mono (e : Same G G') {t : Bool} {kvs : List (D × D)} {u : HO} (h : DR K G t kvs u) : DR K G' t kvs u := by
  cases h with
  | k h => exact .k (kvr_mono e h)
  | t h => exact .t (kvt_mono e h)
theorem rows_mono (e : Same G G') {rows : List (List D)} {vs : List V} {c : List Cell} (h : RowsR K G rows vs c) : RowsR K G' rows vs c := by
  induction h with
  | nil => exact .nil
  | cons d _ ih => exact .cons (dps_mono e _ _ d) ih
theorem rows_len {rows : List (List D)} {vs : List V} {c : List Cell} (h : RowsR K G rows vs c) : vs.length = rows.length := by
  induction h with
  | nil => rfl
  | cons d _ ih => simp [ih]
theorem ot_mono (e : Same G G') {o : O} {v : V} {c : List Cell} (h : OT K G o v c) : OT K G' o v c := by
  cases h with
  | d h => exact .d (dp_mono e _ _ h)
  | l h => exact .l (dps_mono e _ _ h)
  | m h => exact .m (dr_mono e h)
  | g h => exact .g (rows_mono e h)
  | k h1 h2 => exact .k (dr_mono e h1) (e _ _ h2)
theorem rel_mono (e : Same G G') {ev : Ev} {σ : St} (h : RelS K G ev σ L) : RelS K G' ev σ L := by
  induction h with
  | nil => exact .nil
  | none _ ih => exact .none ih
  | some h _ ih => exact .some (ot_mono e h) ih
theorem rel_len {ev : Ev} {σ : St} (h : RelS K G ev σ L) : ev.length = σ.length := by
  induction h with
  | nil => rfl
  | none _ ih => simp [ih]
  | some _ _ ih => simp [ih]
theorem slot_nil {j : Nat} : slot [] j = none := by simp [slot]
theorem slot_zero {x : Option O} {e : Ev} : slot (x :: e) 0 = x := by simp [slot]
theorem slot_succ {x : Option O} {e : Ev} {j : Nat} : slot (x :: e) (j + 1) = slot e j := by simp [slot]
theorem rel_get {ev : Ev} {σ : St} (h : RelS K G ev σ L) : ∀ {j : Nat} {o : O}, slot ev j = some o → ∃ v c, σ[j]? = some (some v) ∧ OT K G o v c ∧ ∀ x ∈ c, x ∈ L := by
  induction h with
  | nil => intro j o e; rw [slot_nil] at e; cases e
  | none _ ih =>
    intro j o e
    cases j with
    | zero => rw [slot_zero] at e; cases e
    | succ j =>
      rw [slot_succ] at e
      obtain ⟨v, c, a, b, d⟩ := ih e
      exact ⟨v, c, by simpa using a, b, d⟩
  | some h _ ih =>
    intro j o e
    cases j with
    | zero =>
      rw [slot_zero] at e
      cases e
      exact ⟨_, _, rfl, h, fun x hx => List.mem_append_left _ hx⟩
    | succ j =>
      rw [slot_succ] at e
      obtain ⟨v, c, a, b, d⟩ := ih e
      exact ⟨v, c, by simpa using a, b, fun x hx => List.mem_append_right _ (d x hx)⟩
/-- a slot's value taken out -/
theorem rel_take {ev : Ev} {σ : St} (h : RelS K G ev σ L) : ∀ {j : Nat} {o : O}, slot ev j = some o → ∃ v c Lr, σ[j]? = some (some v) ∧ OT K G o v c ∧ L.Perm (c ++ Lr) ∧ RelS K G (ev.set j none) σ Lr := by
  induction h with
  | nil => intro j o e; rw [slot_nil] at e; cases e
  | none h ih =>
    intro j o e
    cases j with
    | zero => rw [slot_zero] at e; cases e
    | succ j =>
      rw [slot_succ] at e
      obtain ⟨v, c, Lr, a, b, d, f⟩ := ih e
      exact ⟨v, c, Lr, by simpa using a, b, d, .none f⟩
  | @some o' v' c' e' σ' L' h hr ih =>
    intro j o e
    cases j with
    | zero =>
      rw [slot_zero] at e
      cases e
      exact ⟨_, _, _, rfl, h, .refl _, .none hr⟩
    | succ j =>
      rw [slot_succ] at e
      obtain ⟨v, c, Lr, a, b, d, f⟩ := ih e
      refine ⟨v, c, c' ++ Lr, by simpa using a, b, ?_, .some h f⟩
      refine (d.append_left c').trans ?_
      rw [← List.append_assoc, ← List.append_assoc]
      exact (List.perm_append_comm).append_right Lr
/-- a slot forgotten, its value whatever -/
theorem rel_none {ev : Ev} {σ : St} (h : RelS K G ev σ L) : ∀ (j : Nat) (x : Option V), ∃ L', RelS K G (ev.set j none) (σ.set j x) L' ∧ Sub L' L := by
  induction h with
  | nil => intro j x; exact ⟨[], .nil, .refl⟩
  | none h ih =>
    intro j x
    cases j with
    | zero => exact ⟨_, .none h, .refl⟩
    | succ j =>
      obtain ⟨L', a, b⟩ := ih j x
      exact ⟨L', .none a, b⟩
  | @some o' v' c' e' σ' L' h hr ih =>
    intro j x
    cases j with
    | zero => exact ⟨_, .none hr, .drop⟩
    | succ j =>
      obtain ⟨L'', a, b⟩ := ih j x
      exact ⟨c' ++ L'', .some h a, b.left⟩
/-- .. the slot itself as it is -/
theorem rel_forget {ev : Ev} {σ : St} (h : RelS K G ev σ L) : ∀ (j : Nat), ∃ L', RelS K G (ev.set j none) σ L' ∧ Sub L' L := by
  induction h with
  | nil => intro j; exact ⟨[], .nil, .refl⟩
  | none h ih =>
    intro j
    cases j with
    | zero => exact ⟨_, .none h, .refl⟩
    | succ j =>
      obtain ⟨L', a, b⟩ := ih j
      exact ⟨L', .none a, b⟩
  | @some o' v' c' e' σ' L' h hr ih =>
    intro j
    cases j with
    | zero => exact ⟨_, .none hr, .drop⟩
    | succ j =>
      obtain ⟨L'', a, b⟩ := ih j
      exact ⟨c' ++ L'', .some h a, b.left⟩
/-- a value laid into a slot -/
theorem rel_put {ev : Ev} {σ : St} (h : RelS K G ev σ L) : ∀ {j : Nat} {o : O} {v : V} {c : List Cell}, OT K G o v c → ∃ L', RelS K G (ev.set j (some o)) (σ.set j (some v)) L' ∧ Sub L' (c ++ L) := by
  induction h with
  | nil => intro j o v c z; exact ⟨[], .nil, ⟨c, by simp⟩⟩
  | none h ih =>
    intro j o v c z
    cases j with
    | zero => exact ⟨_, .some z h, .refl⟩
    | succ j =>
      obtain ⟨L', a, b⟩ := ih (j := j) z
      exact ⟨L', .none a, b⟩
  | @some o' v' c' e' σ' L' h hr ih =>
    intro j o v c z
    cases j with
    | zero => exact ⟨_, .some z hr, (Sub.drop (L := L') (Lx := c')).left⟩
    | succ j =>
      obtain ⟨L'', a, b⟩ := ih (j := j) z
      refine ⟨c' ++ L'', .some h a, Sub.trans (Sub.perm ?_) b.left⟩
      rw [← List.append_assoc, ← List.append_assoc]
      exact (List.perm_append_comm).append_right L'
/-- a value laid into a slot that stands there -/
theorem rel_put_at {ev : Ev} {σ : St} (h : RelS K G ev σ L) : ∀ {j : Nat} {o : O} {v : V} {c : List Cell}, slot ev j = none → σ[j]? = some (some v) → OT K G o v c → ∃ L', RelS K G (ev.set j (some o)) σ L' ∧ L'.Perm (c ++ L) := by
  induction h with
  | nil => intro j o v c _ e; simp at e
  | none h ih =>
    intro j o v c e1 e2 z
    cases j with
    | zero =>
      simp at e2
      subst e2
      exact ⟨_, .some z h, .refl _⟩
    | succ j =>
      rw [slot_succ] at e1
      obtain ⟨L', a, b⟩ := ih (j := j) e1 (by simpa using e2) z
      exact ⟨L', .none a, b⟩
  | @some o' v' c' e' σ' L' h hr ih =>
    intro j o v c e1 e2 z
    cases j with
    | zero => rw [slot_zero] at e1; cases e1
    | succ j =>
      rw [slot_succ] at e1
      obtain ⟨L'', a, b⟩ := ih (j := j) e1 (by simpa using e2) z
      refine ⟨c' ++ L'', .some h a, (b.append_left c').trans ?_⟩
      rw [← List.append_assoc, ← List.append_assoc]
      exact (List.perm_append_comm).append_right L'
/-- the rows known from now on -/
theorem rows_frz : ∀ {rows : List (List D)} {vs : List V} {c : List Cell} {G : Hp}, RowsR K G rows vs c → Sep T G H (c ++ L) → ∃ G', Same G G' ∧ DqAll K G' vs (rows.map .list) ∧ Sep T G' H L
  | _, _, _, G, .nil, S => ⟨G, .refl _, .nil, S⟩
  | _, _, _, G, .cons (ws := ws) (q := q) (c := c) d hr, S => by
    obtain ⟨S2, m⟩ := Sep.freeze (show Sep T G H ((q, .lst ws) :: (c ++ L)) from S)
    obtain ⟨G3, m3, d3, S3⟩ := rows_frz (rows_mono m hr) S2
    exact ⟨G3, m.trans m3, .cons (.lst (m3.seq (.inl (.inl upd_same))) (dps_mono (m.trans m3) _ _ d)) d3, S3⟩
/-- a thing known from now on -/
theorem frz_of {o : O} {v : V} {c : List Cell} {x : D} (h : OT K G o v c) (e : frz o = some x) (S : Sep T G H (c ++ L)) : ∃ G', Same G G' ∧ Dq K G' v x ∧ Sep T G' H L := by
  cases h with
  | d h =>
    cases e
    exact ⟨G, .refl _, h, S⟩
  | @l xs p vs h =>
    cases e
    obtain ⟨S2, m⟩ := Sep.freeze (show Sep T G H ((p, .lst vs) :: L) from S)
    exact ⟨_, m, .lst (.inl (.inl upd_same)) (dps_mono m _ _ h), S2⟩
  | @m t kvs p u h =>
    cases e
    obtain ⟨S2, m⟩ := Sep.freeze (show Sep T G H ((p, u) :: L) from S)
    exact ⟨_, m, dr_dq (dr_mono m h) upd_same, S2⟩
  | k _ _ => cases e
  | @g rows p vs c h =>
    cases e
    obtain ⟨S2, m⟩ := Sep.freeze (show Sep T G H ((p, .lst vs) :: (c ++ L)) from S)
    obtain ⟨G3, m3, d3, S3⟩ := rows_frz (rows_mono m h) S2
    exact ⟨_, m.trans m3, .lst (m3.seq (.inl (.inl upd_same))) d3, S3⟩
end
end Sh

/-! Shift layer 3: the judgements and the rules of expressions. -/
namespace Sh
open PySem PySem.Spec PyProof.Rows L2

theorem Sep.comm3 {T : TabsT} {G H : Hp} {A B C : List Cell} (s : Sep T G H (A ++ (B ++ C))) : Sep T G H (B ++ (A ++ C)) := s.sub (.perm (List.perm_append_comm_assoc A B C))
theorem Sep.tail {T : TabsT} {G H : Hp} {A B : List Cell} (s : Sep T G H (A ++ B)) : Sep T G H B := s.sub .drop

/-- a value and the state behind an expression -/
def PostE (X : Cx) (T : TabsT) (Lx : List Cell) (G : Hp) (σ : St) (o : O) (env' : Ev) (Q : VK) : Prop :=
  ∀ (G' : Hp) (v : V) (H' : Hp) (L' Lo : List Cell), Same G G' → OT X.K G' o v Lo → RelS X.K G' env' σ L' → Sep T G' H' (Lo ++ (L' ++ Lx)) → Q v H'
def EV (X : Cx) (T : TabsT) (e : Expr) (f : Ex) : Prop := ∃ t : TE, PE X e t ∧ ∀ (env : Ev) (o : O) (env' : Ev), f env = some (o, env') → ∀ (G : Hp) (σ : St) (H : Hp) (L Lx : List Cell), RelS X.K G env σ L → Sep T G H (L ++ Lx) →
  ∀ Q : VK, PostE X T Lx G σ o env' Q → t σ H Q
/-- a test -/
def PostB (X : Cx) (T : TabsT) (Lx : List Cell) (G : Hp) (σ : St) (k : Bool) (env' : Ev) (Q : Bool → Hp → Prop) : Prop :=
  ∀ (G' : Hp) (H' : Hp) (L' : List Cell), Same G G' → RelS X.K G' env' σ L' → Sep T G' H' (L' ++ Lx) → Q k H'
def BImp (X : Cx) (T : TabsT) (f : ExB) (t : TT) : Prop := ∀ (env : Ev) (k : Bool) (env' : Ev), f env = some (k, env') → ∀ (G : Hp) (σ : St) (H : Hp) (L Lx : List Cell), RelS X.K G env σ L → Sep T G H (L ++ Lx) →
  ∀ Q : Bool → Hp → Prop, PostB X T Lx G σ k env' Q → t σ H Q
def BV (X : Cx) (T : TabsT) (e : Expr) (f : ExB) : Prop := ∃ t : TT, PT X e t ∧ BImp X T f t
def BW (X : Cx) (T : TabsT) (e : Expr) (f : ExB) : Prop := ∃ t : TT, PW X e t ∧ BImp X T f t
theorem BW.bv {X : Cx} {T : TabsT} {e : Expr} {f : ExB} (h : BW X T e f) : BV X T e f := let ⟨t, a, b⟩ := h; ⟨t, a.pt, b⟩
/-- an operand: a value, or what a slot holds when it is used -/
def VW (K : PySem.W.Frag) (G : Hp) (σ : St) : O ⊕ Nat → V → List Cell → Prop
  | .inl o, v, c => OT K G o v c
  | .inr j, v, c => σ[j]? = some (some v) ∧ c = []
def OV (X : Cx) (T : TabsT) (e : Expr) (f : ExP) : Prop := ∃ t : TE, PE X e t ∧ ∀ (env : Ev) (r : O ⊕ Nat) (env' : Ev), f env = some (r, env') → ∀ (G : Hp) (σ : St) (H : Hp) (L Lx : List Cell), RelS X.K G env σ L → Sep T G H (L ++ Lx) →
  ∀ Q : VK, (∀ (G' : Hp) (v : V) (H' : Hp) (L' Lo : List Cell), Same G G' → VW X.K G' σ r v Lo → RelS X.K G' env' σ L' → Sep T G' H' (Lo ++ (L' ++ Lx)) → Q v H') → t σ H Q
theorem VW.mono {K : PySem.W.Frag} {G G' : Hp} {σ : St} {r : O ⊕ Nat} {v : V} {c : List Cell} (e : Same G G') (h : VW K G σ r v c) : VW K G' σ r v c := by
  cases r with
  | inl o => exact ot_mono e h
  | inr j => exact h
theorem res_of {K : PySem.W.Frag} {G : Hp} {σ : St} {r : O ⊕ Nat} {v : V} {c L : List Cell} {env : Ev} {o : O} (h : VW K G σ r v c) (hr : RelS K G env σ L) (e : res env r = some o) : ∃ c', OT K G o v c' ∧ ∀ x ∈ c', x ∈ c ++ L := by
  cases r with
  | inl o' =>
    cases e
    exact ⟨c, h, fun x hx => List.mem_append_left _ hx⟩
  | inr j =>
    obtain ⟨h1, rfl⟩ := h
    obtain ⟨v', c', a, b, d⟩ := rel_get hr (show slot env j = some o from e)
    rw [h1] at a
    cases a
    exact ⟨c', b, fun x hx => List.mem_append_right _ (d x hx)⟩

/-! ### operations by values -/
def can2 (X : Cx) (f : Value → Value → Sem Value) : R2 := fun x y H Q => ∀ (pins : List (Addr × Obj)) (s : Shared) (σ : St) (v u : Value), Inv X pins σ H s → RelV x v → RelV y u → wpAny (model X.prog X.w) X.A (f v u) (L2.EP X pins σ Q) X.xe s
theorem can2_ok {X : Cx} {f : Value → Value → Sem Value} : OpR X f (can2 X f) := fun pins s σ H x y v u Q I rx ry h => h pins s σ v u I rx ry
def can1 (X : Cx) (f : Value → Sem Value) : V → Hp → VK → Prop := fun x H Q => ∀ (pins : List (Addr × Obj)) (s : Shared) (σ : St) (v : Value), Inv X pins σ H s → RelV x v → wpAny (model X.prog X.w) X.A (f v) (L2.EP X pins σ Q) X.xe s
theorem can1_ok {X : Cx} {f : Value → Sem Value} : UnR X f (can1 X f) := fun pins s σ H x v Q I rx h => h pins s σ v I rx
/-- f gives of x, y what g says -/
def Op2 (X : Cx) (T : TabsT) (r : R2) (g : O → O → Option O) : Prop := ∀ (G H : Hp) (L : List Cell) (x y z : O) (vx vy : V) (cx cy : List Cell), OT X.K G x vx cx → OT X.K G y vy cy → (∀ c ∈ cx, c ∈ L) → (∀ c ∈ cy, c ∈ L) → Sep T G H L → g x y = some z →
  ∀ Q : VK, (∀ (G' : Hp) (vz : V) (H' : Hp) (Lz : List Cell), Same G G' → OT X.K G' z vz Lz → Sep T G' H' (Lz ++ L) → Q vz H') → r vx vy H Q
def Op1 (X : Cx) (T : TabsT) (r : V → Hp → VK → Prop) (g : O → Option O) : Prop := ∀ (G H : Hp) (L : List Cell) (x z : O) (vx : V) (cx : List Cell), OT X.K G x vx cx → (∀ c ∈ cx, c ∈ L) → Sep T G H L → g x = some z →
  ∀ Q : VK, (∀ (G' : Hp) (vz : V) (H' : Hp) (Lz : List Cell), Same G G' → OT X.K G' z vz Lz → Sep T G' H' (Lz ++ L) → Q vz H') → r vx H Q
section
variable {X : Cx} {T : TabsT} {a b c e : Expr} {pos : Pos}
theorem bind_eq {α β : Type} {x : Option α} {f : α → Option β} {b : β} (h : x.bind f = some b) : ∃ a, x = some a ∧ f a = some b := by
  cases x with
  | none => cases h
  | some a => exact ⟨a, rfl, h⟩
theorem sub_tail2 {A B C D' E : List Cell} : Sub (E ++ (B ++ D')) (E ++ (A ++ (B ++ (C ++ D')))) := (Sub.trans .drop (Sub.left .drop)).left
/-- the two operands, then f -/
theorem ov2 {fa fb : ExP} {ta tb : TE} (ha : ∀ (env : Ev) (r : O ⊕ Nat) (env' : Ev), fa env = some (r, env') → ∀ (G : Hp) (σ : St) (H : Hp) (L Lx : List Cell), RelS X.K G env σ L → Sep T G H (L ++ Lx) →
    ∀ Q : VK, (∀ (G' : Hp) (v : V) (H' : Hp) (L' Lo : List Cell), Same G G' → VW X.K G' σ r v Lo → RelS X.K G' env' σ L' → Sep T G' H' (Lo ++ (L' ++ Lx)) → Q v H') → ta σ H Q)
    (hb : ∀ (env : Ev) (r : O ⊕ Nat) (env' : Ev), fb env = some (r, env') → ∀ (G : Hp) (σ : St) (H : Hp) (L Lx : List Cell), RelS X.K G env σ L → Sep T G H (L ++ Lx) →
    ∀ Q : VK, (∀ (G' : Hp) (v : V) (H' : Hp) (L' Lo : List Cell), Same G G' → VW X.K G' σ r v Lo → RelS X.K G' env' σ L' → Sep T G' H' (Lo ++ (L' ++ Lx)) → Q v H') → tb σ H Q)
    {env env1 env2 : Ev} {r1 r2 : O ⊕ Nat} {x y : O} (e1 : fa env = some (r1, env1)) (e2 : fb env1 = some (r2, env2)) (ex : res env2 r1 = some x) (ey : res env2 r2 = some y)
    {G : Hp} {σ : St} {H : Hp} {L Lx : List Cell} (hR : RelS X.K G env σ L) (hS : Sep T G H (L ++ Lx)) {R : V → V → Hp → Prop}
    (h : ∀ (G2 : Hp) (vx vy : V) (H2 : Hp) (L2 Lw cx cy : List Cell), Same G G2 → OT X.K G2 x vx cx → OT X.K G2 y vy cy → (∀ c ∈ cx, c ∈ Lw) → (∀ c ∈ cy, c ∈ Lw) → RelS X.K G2 env2 σ L2 → Sep T G2 H2 Lw → (∀ E, Sub (E ++ (L2 ++ Lx)) (E ++ Lw)) → R vx vy H2) :
    ta σ H fun vx H1 => tb σ H1 fun vy H2 => R vx vy H2 := by
  refine ha env r1 env1 e1 G σ H L Lx hR hS _ fun G1 v1 H1 L1 Lo1 s1 o1 R1 S1 => ?_
  refine hb env1 r2 env2 e2 G1 σ H1 L1 (Lo1 ++ Lx) R1 S1.comm3 _ fun G2 v2 H2 L2 Lo2 s2 o2 R2 S2 => ?_
  obtain ⟨cx, ox, mx⟩ := res_of (o1.mono s2) R2 ex
  obtain ⟨cy, oy, my⟩ := res_of o2 R2 ey
  refine h G2 v1 v2 H2 L2 _ cx cy (s1.trans s2) ox oy (fun c hc => ?_) (fun c hc => ?_) R2 S2 fun E => sub_tail2
  · rcases List.mem_append.mp (mx c hc) with q | q
    · exact List.mem_append_right _ (List.mem_append_right _ (List.mem_append_left _ q))
    · exact List.mem_append_right _ (List.mem_append_left _ q)
  · rcases List.mem_append.mp (my c hc) with q | q
    · exact List.mem_append_left _ q
    · exact List.mem_append_right _ (List.mem_append_left _ q)
theorem eOp2_eq {g : O → O → Option O} {fa fb : ExP} {env env' : Ev} {o : O} (h : eOp2 g fa fb env = some (o, env')) : ∃ r1 env1 r2 x y, fa env = some (r1, env1) ∧ fb env1 = some (r2, env') ∧ res env' r1 = some x ∧ res env' r2 = some y ∧ g x y = some o := by
  unfold eOp2 at h
  obtain ⟨⟨r1, env1⟩, e1, h⟩ := bind_eq h
  obtain ⟨⟨r2, env2⟩, e2, h⟩ := bind_eq h
  obtain ⟨x, e3, h⟩ := bind_eq h
  obtain ⟨y, e4, h⟩ := bind_eq h
  obtain ⟨z, e5, h⟩ := bind_eq h
  cases h
  exact ⟨r1, env1, r2, x, y, e1, e2, e3, e4, e5⟩
theorem bOp2_eq {g : O → O → Option Bool} {fa fb : ExP} {env env' : Ev} {o : Bool} (h : bOp2 g fa fb env = some (o, env')) : ∃ r1 env1 r2 x y, fa env = some (r1, env1) ∧ fb env1 = some (r2, env') ∧ res env' r1 = some x ∧ res env' r2 = some y ∧ g x y = some o := by
  unfold bOp2 at h
  obtain ⟨⟨r1, env1⟩, e1, h⟩ := bind_eq h
  obtain ⟨⟨r2, env2⟩, e2, h⟩ := bind_eq h
  obtain ⟨x, e3, h⟩ := bind_eq h
  obtain ⟨y, e4, h⟩ := bind_eq h
  obtain ⟨z, e5, h⟩ := bind_eq h
  cases h
  exact ⟨r1, env1, r2, x, y, e1, e2, e3, e4, e5⟩
theorem eOp1_eq {g : O → Option O} {fa : ExP} {env env' : Ev} {o : O} (h : eOp1 g fa env = some (o, env')) : ∃ r1 x, fa env = some (r1, env') ∧ res env' r1 = some x ∧ g x = some o := by
  unfold eOp1 at h
  obtain ⟨⟨r1, env1⟩, e1, h⟩ := bind_eq h
  obtain ⟨x, e3, h⟩ := bind_eq h
  obtain ⟨z, e5, h⟩ := bind_eq h
  cases h
  exact ⟨r1, x, e1, e3, e5⟩
/-- a reading of two operands that goes by Op2 -/
theorem ev_of2 {fa fb : ExP} {r : R2} {g : O → O → Option O} (hg : Op2 X T r g) (ha : OV X T a fa) (hb : OV X T b fb) (hp : ∀ {ta tb : TE}, PE X a ta → PE X b tb → PE X e (tOp r ta tb)) : EV X T e (eOp2 g fa fb) := by
  obtain ⟨ta, pa, ha⟩ := ha
  obtain ⟨tb, pb, hb⟩ := hb
  refine ⟨_, hp pa pb, fun env o env' hf G σ H L Lx hR hS Q hQ => ?_⟩
  obtain ⟨r1, env1, r2, x, y, e1, e2, ex, ey, ez⟩ := eOp2_eq hf
  refine ov2 ha hb e1 e2 ex ey hR hS fun G2 vx vy H2 L2 Lw cx cy s2 ox oy mx my R2 S2 sub => ?_
  exact hg G2 H2 Lw x y o vx vy cx cy ox oy mx my S2 ez Q fun G3 vz H3 Lz s3 oz S3 => hQ G3 vz H3 L2 Lz (s2.trans s3) oz (rel_mono s3 R2) (S3.sub (sub Lz))
theorem ev_of1 {fa : ExP} {r : V → Hp → VK → Prop} {g : O → Option O} (hg : Op1 X T r g) (ha : OV X T a fa) (hp : ∀ {ta : TE}, PE X a ta → PE X e (tUn r ta)) : EV X T e (eOp1 g fa) := by
  obtain ⟨ta, pa, ha⟩ := ha
  refine ⟨_, hp pa, fun env o env' hf G σ H L Lx hR hS Q hQ => ?_⟩
  obtain ⟨r1, x, e1, ex, ez⟩ := eOp1_eq hf
  refine ha env r1 env' e1 G σ H L Lx hR hS _ fun G1 v1 H1 L1 Lo1 s1 o1 R1 S1 => ?_
  obtain ⟨cx, ox, mx⟩ := res_of o1 R1 ex
  refine hg G1 H1 _ x o v1 cx ox (fun c hc => ?_) S1 ez Q fun G3 vz H3 Lz s3 oz S3 => hQ G3 vz H3 L1 Lz (s1.trans s3) oz (rel_mono s3 R1) (S3.sub (Sub.left .drop))
  rcases List.mem_append.mp (mx c hc) with q | q
  · exact List.mem_append_left _ q
  · exact List.mem_append_right _ (List.mem_append_left _ q)

/-! ### names and constants -/
theorem ov_e {f : Ex} (h : EV X T e f) : OV X T e (pV f) := by
  obtain ⟨t, p, h⟩ := h
  refine ⟨t, p, fun env r env' hf G σ H L Lx hR hS Q hQ => ?_⟩
  unfold pV at hf
  obtain ⟨⟨o, env1⟩, e1, hf⟩ := bind_eq hf
  cases hf
  exact h env o env1 e1 G σ H L Lx hR hS Q fun G' v H' L' Lo s o R S => hQ G' v H' L' Lo s o R S
theorem ov_s {x : Str} (j : Nat) (hN : X.N[j]? = some x := by rfl) (hv : Vis X.env.scope x := by first | exact Or.inl rfl | exact Or.inr (Or.inl rfl) | exact Or.inr (Or.inr rfl)) (hd : (x == ("__debug__" : Str)) = false := by decide)
    (hcd : (x == ("__classdict__" : Str)) = false := by decide) : OV X T (.Name x pos) (pS j) := by
  refine ⟨tVar j, pe_var hN hv hd hcd, fun env r env' hf G σ H L Lx hR hS Q hQ => ?_⟩
  unfold pS at hf
  obtain ⟨o, h, hf⟩ := bind_eq hf
  cases hf
  obtain ⟨v, c, h1, h2, h3⟩ := rel_get hR h
  exact ⟨v, h1, hQ G v H L [] (.refl _) ⟨h1, rfl⟩ hR hS⟩
theorem ev_var {x : Str} (j : Nat) (hN : X.N[j]? = some x := by rfl) (hv : Vis X.env.scope x := by first | exact Or.inl rfl | exact Or.inr (Or.inl rfl) | exact Or.inr (Or.inr rfl)) (hd : (x == ("__debug__" : Str)) = false := by decide)
    (hcd : (x == ("__classdict__" : Str)) = false := by decide) : EV X T (.Name x pos) (eVar j) := by
  refine ⟨tVar j, pe_var hN hv hd hcd, fun env o env' hf G σ H L Lx hR hS Q hQ => ?_⟩
  unfold eVar at hf
  split at hf
  · rename_i x h
    cases hf
    obtain ⟨v, c, h1, h2, h3⟩ := rel_get hR h
    cases h2 with
    | d h2 => exact ⟨v, h1, hQ G v H L [] (.refl _) (.d h2) hR hS⟩
  · cases hf
/-- the owned list of a slot, known from now on -/
theorem ev_frz {x : Str} (j : Nat) (hN : X.N[j]? = some x := by rfl) (hv : Vis X.env.scope x := by first | exact Or.inl rfl | exact Or.inr (Or.inl rfl) | exact Or.inr (Or.inr rfl)) (hd : (x == ("__debug__" : Str)) = false := by decide)
    (hcd : (x == ("__classdict__" : Str)) = false := by decide) : EV X T (.Name x pos) (eFrz j) := by
  refine ⟨tVar j, pe_var hN hv hd hcd, fun env o env' hf G σ H L Lx hR hS Q hQ => ?_⟩
  unfold eFrz at hf
  obtain ⟨o', h, hf⟩ := bind_eq hf
  obtain ⟨x, hx, hf⟩ := bind_eq hf
  cases hf
  obtain ⟨v, c, Lr, h1, h2, h3, h4⟩ := rel_take hR h
  refine ⟨v, h1, ?_⟩
  have hn : slot (env.set j none) j = none := by
    unfold slot
    rw [List.getElem?_set]
    split
    · split <;> rfl
    · rename_i hh
      exact absurd rfl hh
  cases h2 with
  | d h2 =>
    cases hx
    obtain ⟨L', a, b⟩ := rel_put_at h4 hn h1 (.d h2)
    rw [List.set_set] at a
    exact hQ G v H L' [] (.refl _) (.d h2) a (hS.sub (Sub.right (.perm (h3.trans b.symm))))
  | @l xs p vs h2 =>
    cases hx
    have S1 : Sep T G H ((p, .lst vs) :: (Lr ++ Lx)) := hS.sub (.perm (by
      have := h3.append_right Lx
      simpa using this))
    obtain ⟨S2, m⟩ := S1.freeze
    have hd' : Dq X.K (upd G p (.lst vs)) (.ref p) (.list xs) := .lst (.inl (.inl upd_same)) (dps_mono m _ _ h2)
    obtain ⟨L', a, b⟩ := rel_put_at (rel_mono m h4) hn h1 (.d hd')
    rw [List.set_set] at a
    exact hQ _ (.ref p) H L' [] m (.d hd') a (S2.sub (Sub.right (.perm (by simpa using b.symm))))
  | m h2 =>
    have S1 := hS.sub (.perm (h3.append_right Lx))
    rw [List.append_assoc] at S1
    obtain ⟨G2, m2, d2, S2⟩ := frz_of (.m h2) hx S1
    obtain ⟨L', a, b⟩ := rel_put_at (rel_mono m2 h4) hn h1 (.d d2)
    rw [List.set_set] at a
    exact hQ _ _ H L' [] m2 (.d d2) a (S2.sub (Sub.right (.perm (by simpa using b.symm))))
  | k _ _ => cases hx
  | g h2 =>
    have S1 := hS.sub (.perm (h3.append_right Lx))
    rw [List.append_assoc] at S1
    obtain ⟨G2, m2, d2, S2⟩ := frz_of (.g h2) hx S1
    obtain ⟨L', a, b⟩ := rel_put_at (rel_mono m2 h4) hn h1 (.d d2)
    rw [List.set_set] at a
    exact hQ _ _ H L' [] m2 (.d d2) a (S2.sub (Sub.right (.perm (by simpa using b.symm))))
theorem ev_const {x : D} {t : V} (hd : ∀ G, Dq X.K G t x) (h : PE X e (tC t)) : EV X T e (eC x) := by
  refine ⟨_, h, fun env o env' hf G σ H L Lx hR hS Q hQ => ?_⟩
  cases hf
  exact hQ G t H L [] (.refl _) (.d (hd G)) hR hS
theorem ev_int {i j} : EV X T (.Constant (.int i) j pos) (eC (.int i)) := ev_const (fun _ => .int i) pe_int
theorem ev_bl {i j} : EV X T (.Constant (.bool i) j pos) (eC (.bool i)) := ev_const (fun _ => .bl i) pe_bl
theorem ev_non {j} : EV X T (.Constant .none j pos) (eC .none) := ev_const (fun _ => .non) pe_non
theorem ev_str {i j} : EV X T (.Constant (.str i) j pos) (eC (.str i)) := ev_const (fun _ => .str i) pe_str
/-- a module's constant -/
theorem ev_glob {x : Str} {d : D} {v : V} {u : Value} (hm : X.mg x = some u) (r : RelV v u) (hd : ∀ G, Dq X.K G v d) (hg : Gl X x := by rfl) (hdb : (x == ("__debug__" : Str)) = false := by decide) : EV X T (.Name x pos) (eC d) := ev_const hd (pe_glob hg hm r hdb)

/-! ### operators -/
theorem ev_bin {op : Operator} {g : O → O → Option O} {fa fb : ExP} (hg : Op2 X T (can2 X (binaryOp op)) g) (ha : OV X T a fa) (hb : OV X T b fb) : EV X T (.BinOp a op b pos) (eOp2 g fa fb) := ev_of2 hg ha hb fun pa pb => pe_op can2_ok pa pb
theorem ev_un {op : UnaryOp} {g : O → Option O} {fa : ExP} (hg : Op1 X T (can1 X (unaryOp op)) g) (ha : OV X T a fa) : EV X T (.UnaryOp op a pos) (eOp1 g fa) := ev_of1 hg ha fun pa => pe_un can1_ok pa
/-- two ints -/
theorem op2_int {f : Value → Value → Sem Value} {r : R2} {h : Int → Int → Option Int} {g : O → O → Option O} (ho : OpR X f r)
    (hr : ∀ (i j k : Int) (H : Hp) (Q : VK), h i j = some k → Q (.int k) H → r (.int i) (.int j) H Q)
    (hg : ∀ x y z, g x y = some z → ∃ i j k, x = .d (.int i) ∧ y = .d (.int j) ∧ h i j = some k ∧ z = .d (.int k)) : Op2 X T (can2 X f) g := by
  intro G H L x y z vx vy cx cy ox oy mx my S ez Q hQ pins s σ v u I rx ry
  obtain ⟨i, j, k, rfl, rfl, hk, rfl⟩ := hg x y z ez
  cases ox with
  | d ox =>
    cases oy with
    | d oy =>
      cases ox
      cases oy
      exact ho pins s σ H _ _ v u Q I rx ry (hr i j k H Q hk (hQ G _ H [] (.refl _) (.d (.int k)) S))
theorem op2_mk {f : Value → Value → Sem Value} {g : O → O → Option O} (h : ∀ (G H : Hp) (L : List Cell) (x y z : O) (vx vy : V) (cx cy : List Cell), OT X.K G x vx cx → OT X.K G y vy cy → (∀ c ∈ cx, c ∈ L) → (∀ c ∈ cy, c ∈ L) → Sep T G H L → g x y = some z →
  ∃ r, OpR X f r ∧ ∀ Q : VK, (∀ (G' : Hp) (vz : V) (H' : Hp) (Lz : List Cell), Same G G' → OT X.K G' z vz Lz → Sep T G' H' (Lz ++ L) → Q vz H') → r vx vy H Q) : Op2 X T (can2 X f) g := by
  intro G H L x y z vx vy cx cy ox oy mx my S ez Q hQ pins s σ v u I rx ry
  obtain ⟨r, ho, hr⟩ := h G H L x y z vx vy cx cy ox oy mx my S ez
  exact ho pins s σ H vx vy v u Q I rx ry (hr Q hQ)
theorem o2_sub : Op2 X T (can2 X (binaryOp .Sub)) gSub := op2_int (h := fun i j => some (i - j)) op_sub (fun i j k H Q e q => by cases e; exact ⟨i, j, rfl, rfl, q⟩) fun x y z e => by
  unfold gSub at e
  split at e
  · cases e
    exact ⟨_, _, _, rfl, rfl, rfl, rfl⟩
  · cases e
theorem o2_mul : Op2 X T (can2 X (binaryOp .Mult)) gMul := op2_int (h := fun i j => if -(2 ^ 64) < i ∧ i < 2 ^ 64 ∨ -(2 ^ 64) < j ∧ j < 2 ^ 64 then some (i * j) else none) op_mul (fun i j k H Q e q => by
    split at e
    · rename_i hc
      cases e
      exact ⟨i, j, rfl, rfl, hc, q⟩
    · cases e) fun x y z e => by
  unfold gMul at e
  split at e
  · split at e
    · rename_i hc
      cases e
      exact ⟨_, _, _, rfl, rfl, if_pos hc, rfl⟩
    · cases e
  · cases e
theorem o2_div : Op2 X T (can2 X (binaryOp .FloorDiv)) gDiv := op2_int (h := fun i j => if 0 < j ∧ j < 1073741824 then some (i / j) else none) op_fdiv (fun i j k H Q e q => by
    split at e
    · rename_i hc
      cases e
      exact ⟨i, j, rfl, rfl, hc, q⟩
    · cases e) fun x y z e => by
  unfold gDiv at e
  split at e
  · split at e
    · rename_i hc
      cases e
      exact ⟨_, _, _, rfl, rfl, if_pos hc, rfl⟩
    · cases e
  · cases e
theorem o2_mod : Op2 X T (can2 X (binaryOp .Mod)) gMod := op2_int (h := fun i j => if 0 < j then some (i % j) else none) op_mod (fun i j k H Q e q => by
    split at e
    · rename_i hc
      cases e
      exact ⟨i, j, rfl, rfl, hc, q⟩
    · cases e) fun x y z e => by
  unfold gMod at e
  split at e
  · split at e
    · rename_i hc
      cases e
      exact ⟨_, _, _, rfl, rfl, if_pos hc, rfl⟩
    · cases e
  · cases e
theorem o2_pow : Op2 X T (can2 X (binaryOp .Pow)) gPow := op2_int (h := fun i j => if 0 ≤ j ∧ j ≤ 1000000 ∧ i.natAbs < 2 ^ 64 then some (i ^ j.toNat) else none) op_pow (fun i j k H Q e q => by
    split at e
    · rename_i hc
      cases e
      exact ⟨i, j, rfl, rfl, hc, q⟩
    · cases e) fun x y z e => by
  unfold gPow at e
  split at e
  · split at e
    · rename_i hc
      cases e
      exact ⟨_, _, _, rfl, rfl, if_pos hc, rfl⟩
    · cases e
  · cases e
theorem o1_neg : Op1 X T (can1 X (unaryOp .USub)) gNeg := by
  intro G H L x z vx cx ox mx S ez Q hQ pins s σ v I rx
  unfold gNeg at ez
  split at ez
  · rename_i i
    cases ez
    cases ox with
    | d ox =>
      cases ox
      exact un_neg pins s σ H _ v Q I rx ⟨i, rfl, hQ G _ H [] (.refl _) (.d (.int _)) S⟩
  · cases ez
/-- what may be walked or read as a list -/
theorem lst_of {K : PySem.W.Frag} {G H : Hp} {L : List Cell} {o : O} {v : V} {c : List Cell} {xs : List D} (h : OT K G o v c) (m : ∀ x ∈ c, x ∈ L) (S : Sep T G H L) (e : oLst o = some xs) : ∃ p vs, v = .ref p ∧ SqL K H p vs ∧ DqAll K G vs xs := by
  unfold oLst at e
  split at e
  · cases e
    cases h with
    | d h =>
      cases h with
      | lst h hs => exact ⟨_, _, rfl, S.same.seq h, hs⟩
  · cases e
    cases h with
    | l h => exact ⟨_, _, rfl, .inl (.inl (S.at_ _ (m _ List.mem_cons_self)).1), h⟩
  · cases e
theorem seq_of {K : PySem.W.Frag} {G H : Hp} {L : List Cell} {o : O} {v : V} {c : List Cell} {xs : List D} (h : OT K G o v c) (m : ∀ x ∈ c, x ∈ L) (S : Sep T G H L) (e : oSeq o = some xs) : ∃ p vs, v = .ref p ∧ (SqL K H p vs ∨ SqT K H p vs) ∧ DqAll K G vs xs := by
  unfold oSeq at e
  split at e
  · cases e
    cases h with
    | d h =>
      cases h with
      | lst h hs => exact ⟨_, _, rfl, .inl (S.same.seq h), hs⟩
  · cases e
    cases h with
    | d h =>
      cases h with
      | tup h hs => exact ⟨_, _, rfl, .inr (same_tup S.same h), hs⟩
  · cases e
    cases h with
    | l h => exact ⟨_, _, rfl, .inl (.inl (.inl (S.at_ _ (m _ List.mem_cons_self)).1)), h⟩
  · cases e
/-- xs + ys of lists that are read -/
def rCatS (K : PySem.W.Frag) : R2 := fun x y H Q => ∃ l b xs zs, x = .ref l ∧ y = .ref b ∧ SqL K H l xs ∧ SqL K H b zs ∧ xs.length + zs.length ≤ sizeLine ∧ ∀ p, H p = none → Q (.ref p) (upd H p (.lst (xs ++ zs)))
theorem op_catS : OpR X (binaryOp .Add) (rCatS X.K) := by
  intro pins s σ H x y v u Q I rx ry h
  obtain ⟨l, b, xs, zs, rfl, rfl, hH, hB, hz, q⟩ := h
  cases rx
  cases ry
  obtain ⟨its, r, e, hl⟩ := I.list hH
  obtain ⟨its2, r2, e2, hl2⟩ := I.list hB
  obtain ⟨⟨cls, dd, data, sl⟩, n, ho, hc, hd0, hd⟩ := e
  obtain ⟨⟨cls2, dd2, data2, sl2⟩, n2, ho2, hc2, hd02, hd2⟩ := e2
  simp only at hc hd hc2 hd2
  subst hc hd hc2 hd2
  have l1 := r.length
  have l2 := r2.length
  refine concat_meets ⟨_, ho, rfl⟩ ⟨_, ho2, rfl⟩ noFill_list_add seq_list_add PySem.F.slot_list_add PySem.F.entry_list_add (PySem.F.args_list_add_2 _ _) (list_addW l b its.toArray its2.toArray n n2 dd dd2 sl sl2 (by simp only [List.size_toArray]; omega)) ⟨ho, ho2, ?_⟩
  have ea : its.toArray ++ its2.toArray = (its ++ its2).toArray := by simp
  rw [ea]
  exact ⟨.ref _, _, I.laid (t' := s.toks) (o := .lst (xs ++ zs)) (fun b ob q => Heap.get?_push_of_some _ q) (Nat.le_refl _) ⟨by rw [List.length_append]; exact hz, its ++ its2, 0, r.append r2, Heap.get?_push_size _ rfl⟩, rfl, q _ (I.hok.fresh (Nat.le_refl _))⟩
theorem line_ge : (1000000 : Nat) < sizeLine := by decide
theorem o2_addL {x y z : O} {xs ys : List D} {G H : Hp} {L : List Cell} {vx vy : V} {cx cy : List Cell} (ox : OT X.K G x vx cx) (oy : OT X.K G y vy cy) (mx : ∀ c ∈ cx, c ∈ L) (my : ∀ c ∈ cy, c ∈ L) (S : Sep T G H L)
    (hx : oLst x = some xs) (hy : oLst y = some ys) (hl : xs.length + ys.length ≤ 1000000) :
    ∀ Q : VK, (∀ (G' : Hp) (vz : V) (H' : Hp) (Lz : List Cell), Same G G' → OT X.K G' (.l (xs ++ ys)) vz Lz → Sep T G' H' (Lz ++ L) → Q vz H') → rCatS X.K vx vy H Q := by
  intro Q hQ
  obtain ⟨p, vs, rfl, hp, hs⟩ := lst_of ox mx S hx
  obtain ⟨p2, vs2, rfl, hp2, hs2⟩ := lst_of oy my S hy
  have := line_ge
  refine ⟨p, p2, vs, vs2, rfl, rfl, hp, hp2, by rw [dps_len hs, dps_len hs2]; omega, fun q hq => ?_⟩
  exact hQ G (.ref q) _ _ (.refl _) (.l (dps_app hs hs2)) (S.owned hq)
theorem o2_add : Op2 X T (can2 X (binaryOp .Add)) gAdd := op2_mk fun G H L x y z vx vy cx cy ox oy mx my S e => by
  unfold gAdd at e
  split at e
  · cases e
    cases ox with
    | d ox =>
      cases oy with
      | d oy =>
        cases ox
        cases oy
        exact ⟨_, op_add, fun Q hQ => ⟨_, _, rfl, rfl, hQ G _ H [] (.refl _) (.d (.int _)) S⟩⟩
  · rename_i xs ys
    split at e
    · rename_i hl
      cases e
      cases ox with
      | d ox =>
        cases oy with
        | d oy =>
          cases ox with
          | @tup a vs _ h1 h2 =>
            cases oy with
            | @tup b vs2 _ h3 h4 =>
              have := line_ge
              have e1 := dps_len h2
              have e2 := dps_len h4
              refine ⟨_, op_catA, fun Q hQ => ⟨a, b, vs, vs2, rfl, rfl, same_tup S.same h1, same_tup S.same h3, by omega, fun z => ?_, fun _ z => ?_, fun _ _ p hp => ?_⟩⟩
              · subst z
                cases h2
                exact hQ G _ H [] (.refl _) (.d (.tup h3 h4)) S
              · subst z
                cases h4
                rw [List.append_nil] at hQ
                exact hQ G _ H [] (.refl _) (.d (.tup h1 h2)) S
              · have m := same_new (o := .tup (vs ++ vs2)) (S.fresh hp).1
                exact hQ _ _ _ [] m (.d (.tup upd_same (dps_mono m _ _ (dps_app h2 h4)))) (S.frozen hp)
    · cases e
  · obtain ⟨xs, hx, e⟩ := bind_eq e
    obtain ⟨ys, hy, e⟩ := bind_eq e
    split at e
    · rename_i hl
      cases e
      exact ⟨_, op_catS, o2_addL (z := .l (xs ++ ys)) ox oy mx my S hx hy hl⟩
    · cases e

/-! ### comparisons -/
/-- what a comparison gives -/
def Cmp2 (X : Cx) (T : TabsT) (op : CmpOp) (g : O → O → Option Bool) : Prop := ∀ (G H : Hp) (L : List Cell) (x y : O) (k : Bool) (vx vy : V) (cx cy : List Cell), OT X.K G x vx cx → OT X.K G y vy cy → (∀ c ∈ cx, c ∈ L) → (∀ c ∈ cy, c ∈ L) → Sep T G H L → g x y = some k →
  ∃ r, OpR X (compareOp op) r ∧ ∀ Q : VK, Q (.bl k) H → r vx vy H Q
theorem Cmp2.op {op : CmpOp} {g : O → O → Option Bool} (h : Cmp2 X T op g) : Op2 X T (can2 X (compareOp op)) (gB g) := op2_mk fun G H L x y z vx vy cx cy ox oy mx my S e => by
  unfold gB at e
  obtain ⟨k, ek, e⟩ := bind_eq e
  cases e
  obtain ⟨r, ho, hr⟩ := h G H L x y k vx vy cx cy ox oy mx my S ek
  exact ⟨r, ho, fun Q hQ => hr Q (hQ G _ H [] (.refl _) (.d (.bl k)) S)⟩
theorem Cmp2.can {op : CmpOp} {g : O → O → Option Bool} (h : Cmp2 X T op g) {G H : Hp} {L : List Cell} {x y : O} {k : Bool} {vx vy : V} {cx cy : List Cell} (ox : OT X.K G x vx cx) (oy : OT X.K G y vy cy) (mx : ∀ c ∈ cx, c ∈ L) (my : ∀ c ∈ cy, c ∈ L) (S : Sep T G H L)
    (e : g x y = some k) {Q : VK} (q : Q (.bl k) H) : can2 X (compareOp op) vx vy H Q := by
  intro pins s σ v u I rx ry
  obtain ⟨r, ho, hr⟩ := h G H L x y k vx vy cx cy ox oy mx my S e
  exact ho pins s σ H vx vy v u Q I rx ry (hr Q q)
theorem ev_cmp {op : CmpOp} {g : O → O → Option Bool} {fa fb : ExP} (hg : Cmp2 X T op g) (ha : OV X T a fa) (hb : OV X T b fb) (hm : behindInMarks op b = false := by rfl) : EV X T (.Compare a [op] [b] pos) (eOp2 (gB g) fa fb) := ev_of2 hg.op ha hb fun pa pb => pe_cmpR can2_ok pa pb hm
theorem bv_cmp {op : CmpOp} {g : O → O → Option Bool} {fa fb : ExP} (hg : Cmp2 X T op g) (ha : OV X T a fa) (hb : OV X T b fb) (hm : behindInMarks op b = false := by rfl) : BV X T (.Compare a [op] [b] pos) (bOp2 g fa fb) := by
  obtain ⟨ta, pa, ha⟩ := ha
  obtain ⟨tb, pb, hb⟩ := hb
  refine ⟨_, pt_cmpR can2_ok pa pb hm, fun env k env' hf G σ H L Lx hR hS Q hQ => ?_⟩
  obtain ⟨r1, env1, r2, x, y, e1, e2, ex, ey, ez⟩ := bOp2_eq hf
  refine ov2 ha hb e1 e2 ex ey hR hS fun G2 vx vy H2 L2 Lw cx cy s2 ox oy mx my R2 S2 sub => ?_
  exact hg.can ox oy mx my S2 ez ⟨k, rfl, hQ G2 H2 L2 s2 R2 (S2.sub (sub []))⟩
theorem c2_int {op : CmpOp} {g : O → O → Option Bool} {r : R2} {h : Int → Int → Bool} (ho : OpR X (compareOp op) r) (hr : ∀ (i j : Int) (H : Hp) (Q : VK), Q (.bl (h i j)) H → r (.int i) (.int j) H Q)
    (hg : ∀ x y k, g x y = some k → ∃ i j, x = .d (.int i) ∧ y = .d (.int j) ∧ k = h i j) : Cmp2 X T op g := by
  intro G H L x y k vx vy cx cy ox oy mx my S e
  obtain ⟨i, j, rfl, rfl, rfl⟩ := hg x y k e
  cases ox with
  | d ox =>
    cases oy with
    | d oy =>
      cases ox
      cases oy
      exact ⟨r, ho, fun Q q => hr i j H Q q⟩
theorem ints_dps {K : PySem.W.Frag} {G : Hp} : ∀ {xs : List D} {ns : List Int} {vs : List V}, intsOf xs = some ns → DqAll K G vs xs → vs = ns.map V.int
  | [], _, _, e, h => by
    cases e
    cases h
    rfl
  | .int i :: r, ns, vs, e, h => by
    unfold intsOf at e
    obtain ⟨ms, e1, e2⟩ := bind_eq e
    cases e2
    cases h with
    | cons h hs =>
      cases h
      rw [ints_dps e1 hs]
      rfl
  | .none :: _, _, _, e, _ => by simp [intsOf] at e
  | .bool _ :: _, _, _, e, _ => by simp [intsOf] at e
  | .str _ :: _, _, _, e, _ => by simp [intsOf] at e
  | .list _ :: _, _, _, e, _ => by simp [intsOf] at e
  | .tuple _ :: _, _, _, e, _ => by simp [intsOf] at e
  | .dict _ :: _, _, _, e, _ => by simp [intsOf] at e
theorem c2_lt {k : Nat} (hr : Room k X.A) : Cmp2 X T .Lt gLt := by
  intro G H L x y k vx vy cx cy ox oy mx my S e
  unfold gLt at e
  split at e
  · cases e
    cases ox with
    | d ox =>
      cases oy with
      | d oy =>
        cases ox
        cases oy
        exact ⟨_, op_lt, fun Q q => ⟨_, _, rfl, rfl, q⟩⟩
  · obtain ⟨ns, e1, e⟩ := bind_eq e
    obtain ⟨ms, e2, e⟩ := bind_eq e
    cases e
    cases ox with
    | d ox =>
      cases oy with
      | d oy =>
        cases ox with
        | tup h1 h2 =>
          cases oy with
          | tup h3 h4 =>
            have i1 := ints_dps e1 h2
            have i2 := ints_dps e2 h4
            subst i1 i2
            exact ⟨_, op_ltT hr.units0, fun Q q => ⟨_, _, ns, ms, rfl, rfl, same_tup S.same h1, same_tup S.same h3, q⟩⟩
  · cases e
/-- data that is read -/
theorem dat_of {K : PySem.W.Frag} {G H : Hp} {L : List Cell} {o : O} {v : V} {c : List Cell} {x : D} (h : OT K G o v c) (m : ∀ x ∈ c, x ∈ L) (S : Sep T G H L) (e : oDat o = some x) : Dq K H v x := by
  unfold oDat at e
  split at e
  · cases e
    cases h with
    | d h => exact dp_mono S.same _ _ h
  · cases e
    cases h with
    | l h => exact .lst (.inl (.inl (S.at_ _ (m _ List.mem_cons_self)).1)) (dps_mono S.same _ _ h)
  · cases e
theorem c2_eq {k : Nat} (hr : Room k X.A) : Cmp2 X T .Eq gEq := by
  intro G H L x y k vx vy cx cy ox oy mx my S e
  unfold gEq at e
  obtain ⟨a, ea, e⟩ := bind_eq e
  obtain ⟨b, eb, e⟩ := bind_eq e
  split at e
  · rename_i hs
    cases e
    exact ⟨_, op_eqD hr.units, fun Q q => ⟨a, b, (dat_of ox mx S ea).dp (noD_shaped hs.1), (dat_of oy my S eb).dp (noD_shaped hs.2), hs.1, hs.2, q⟩⟩
  · cases e
theorem c2_ne {k : Nat} (hr : Room k X.A) : Cmp2 X T .NotEq gNe := by
  intro G H L x y k vx vy cx cy ox oy mx my S e
  unfold gNe gEq at e
  obtain ⟨k', e1, e2⟩ := bind_eq e
  cases e2
  clear e
  have e := e1
  clear e1
  obtain ⟨a, ea, e⟩ := bind_eq e
  obtain ⟨b, eb, e⟩ := bind_eq e
  split at e
  · rename_i hs
    cases e
    exact ⟨_, op_neD hr.units, fun Q q => ⟨a, b, (dat_of ox mx S ea).dp (noD_shaped hs.1), (dat_of oy my S eb).dp (noD_shaped hs.2), hs.1, hs.2, q⟩⟩
  · cases e
theorem isN_of {K : PySem.W.Frag} {G : Hp} {x : O} {v : V} {c : List Cell} {k : Bool} (h : OT K G x v c) (e : gIsN x = some k) : decide (v = .non) = k := by
  unfold gIsN at e
  split at e
  · cases e
    cases h with
    | d h =>
      cases h
      rfl
  · rename_i hne
    cases e
    cases h with
    | d h =>
      cases h <;> first | rfl | exact absurd rfl (hne _) | (exfalso; exact hne rfl)
  · cases e
    cases h
    rfl
  · cases e
    cases h
    rfl
  · simp at e
  · simp at e
theorem c2_is : Cmp2 X T .Is gIs := by
  intro G H L x y k vx vy cx cy ox oy mx my S e
  unfold gIs at e
  split at e
  · cases oy with
    | d oy =>
      cases oy
      refine ⟨_, op_isN, fun Q q => ⟨rfl, ?_⟩⟩
      rw [isN_of ox e]
      exact q
  · cases e
theorem c2_isnot : Cmp2 X T .IsNot gIsNot := by
  intro G H L x y k vx vy cx cy ox oy mx my S e
  unfold gIsNot gIs at e
  obtain ⟨k', e1, e2⟩ := bind_eq e
  cases e2
  clear e
  have e := e1
  clear e1
  split at e
  · cases oy with
    | d oy =>
      cases oy
      refine ⟨_, op_notN, fun Q q => ⟨rfl, ?_⟩⟩
      rw [isN_of ox e]
      exact q
  · cases e
end
end Sh

/-! Shift layer 4: tests, displays, subscripts, calls. -/
namespace Sh
open PySem PySem.Spec PyProof.Rows L2
section
variable {X : Cx} {T : TabsT} {a b c e : Expr} {pos : Pos} {rest es : List Expr}
/-! ### tests -/
theorem bv_tru {fa : ExP} (ha : OV X T a fa) (he : ∀ whole, isTrue a X.env whole = (do let v ← whole; standAt a.pos; holding [v] (truthy v)) := by intro _; rfl) : BV X T a (bTru fa) := by
  obtain ⟨ta, pa, ha⟩ := ha
  refine ⟨_, pt_truth pa he, fun env k env' hf G σ H L Lx hR hS Q hQ => ?_⟩
  unfold bTru at hf
  obtain ⟨⟨r, env1⟩, e1, hf⟩ := bind_eq hf
  obtain ⟨x, e2, hf⟩ := bind_eq hf
  obtain ⟨k', e3, hf⟩ := bind_eq hf
  cases hf
  refine ha env r env1 e1 G σ H L Lx hR hS _ fun G1 v H1 L1 Lo s1 o1 R1 S1 => ?_
  obtain ⟨cx, ox, mx⟩ := res_of o1 R1 e2
  refine ⟨k, ?_, hQ G1 H1 L1 s1 R1 (S1.sub .drop)⟩
  have mx' : ∀ c ∈ cx, c ∈ Lo ++ (L1 ++ Lx) := fun c hc => by
    rcases List.mem_append.mp (mx c hc) with q | q
    · exact List.mem_append_left _ q
    · exact List.mem_append_right _ (List.mem_append_left _ q)
  have emp : ∀ {vs : List V} {xs : List D}, DqAll X.K G1 vs xs → (!xs.isEmpty) = (!vs.isEmpty) := fun {vs xs} h => by
    cases h <;> rfl
  unfold oTru at e3
  split at e3 <;> try cases e3
  · cases ox with | d ox => cases ox; rfl
  · cases ox with | d ox => cases ox; rfl
  · cases ox with | d ox => cases ox; rfl
  · rename_i x
    split at e3
    · rename_i hx
      cases e3
      cases ox with
      | d ox =>
        cases ox
        exact ⟨Nat.le_trans hx (by decide), rfl⟩
    · cases e3
  · cases ox with
    | d ox =>
      cases ox with
      | lst h hs =>
        rw [emp hs]
        exact .inl ⟨_, S1.same.seq h, rfl⟩
  · cases ox with
    | d ox =>
      cases ox with
      | tup h hs =>
        rw [emp hs]
        exact .inr (.inl ⟨_, same_tup S1.same h, rfl⟩)
  · cases ox with
    | l h =>
      rw [emp h]
      exact .inl ⟨_, .inl (.inl (S1.at_ _ (mx' _ List.mem_cons_self)).1), rfl⟩
  · cases ox with
    | @m _ kvs p _ h =>
      cases h with
      | @k _ ks h =>
        refine .inr (.inr ⟨ks, (S1.at_ _ (mx' _ List.mem_cons_self)).1, ?_⟩)
        cases h <;> rfl
theorem bw_and1 {fa : ExB} (ha : BV X T a fa) : BW X T (.BoolOp .And [a] pos) fa := let ⟨t, p, h⟩ := ha; ⟨t, pw_and1 p, h⟩
theorem bw_or1 {fa : ExB} (ha : BV X T a fa) : BW X T (.BoolOp .Or [a] pos) fa := let ⟨t, p, h⟩ := ha; ⟨t, pw_or1 p, h⟩
theorem bw_and {fa fb : ExB} (ha : BV X T a fa) (hb : BW X T (.BoolOp .And (b :: rest) pos) fb) : BW X T (.BoolOp .And (a :: b :: rest) pos) (bAnd fa fb) := by
  obtain ⟨ta, pa, ha⟩ := ha
  obtain ⟨tb, pb, hb⟩ := hb
  refine ⟨_, pw_and pa pb, fun env k env' hf G σ H L Lx hR hS Q hQ => ?_⟩
  unfold bAnd at hf
  obtain ⟨⟨k1, env1⟩, e1, hf⟩ := bind_eq hf
  refine ha env k1 env1 e1 G σ H L Lx hR hS _ fun G1 H1 L1 s1 R1 S1 => ?_
  cases k1 with
  | true =>
    simp only [if_true] at hf ⊢
    exact hb env1 k env' hf G1 σ H1 L1 Lx R1 S1 Q fun G2 H2 L2 s2 R2 S2 => hQ G2 H2 L2 (s1.trans s2) R2 S2
  | false =>
    simp only [Bool.false_eq_true, if_false] at hf ⊢
    cases hf
    exact hQ G1 H1 L1 s1 R1 S1
theorem bw_or {fa fb : ExB} (ha : BV X T a fa) (hb : BW X T (.BoolOp .Or (b :: rest) pos) fb) : BW X T (.BoolOp .Or (a :: b :: rest) pos) (bOr fa fb) := by
  obtain ⟨ta, pa, ha⟩ := ha
  obtain ⟨tb, pb, hb⟩ := hb
  refine ⟨_, pw_or pa pb, fun env k env' hf G σ H L Lx hR hS Q hQ => ?_⟩
  unfold bOr at hf
  obtain ⟨⟨k1, env1⟩, e1, hf⟩ := bind_eq hf
  refine ha env k1 env1 e1 G σ H L Lx hR hS _ fun G1 H1 L1 s1 R1 S1 => ?_
  cases k1 with
  | true =>
    simp only [if_true] at hf ⊢
    cases hf
    exact hQ G1 H1 L1 s1 R1 S1
  | false =>
    simp only [Bool.false_eq_true, if_false] at hf ⊢
    exact hb env1 k env' hf G1 σ H1 L1 Lx R1 S1 Q fun G2 H2 L2 s2 R2 S2 => hQ G2 H2 L2 (s1.trans s2) R2 S2
theorem bv_not {fa : ExB} (ha : BV X T a fa) : BV X T (.UnaryOp .Not a pos) (bNot fa) := by
  obtain ⟨ta, pa, ha⟩ := ha
  refine ⟨_, pt_not pa, fun env k env' hf G σ H L Lx hR hS Q hQ => ?_⟩
  unfold bNot at hf
  obtain ⟨⟨k1, env1⟩, e1, hf⟩ := bind_eq hf
  cases hf
  exact ha env k1 env1 e1 G σ H L Lx hR hS _ fun G1 H1 L1 s1 R1 S1 => hQ G1 H1 L1 s1 R1 S1
theorem bool_of {K : PySem.W.Frag} {G : Hp} {o : O} {v : V} {c : List Cell} {k : Bool} (h : OT K G o v c) (e : oBool o = some k) : v = .bl k ∧ c = [] ∧ o = .d (.bool k) := by
  unfold oBool at e
  split at e
  · cases e
    cases h with
    | d h =>
      cases h
      exact ⟨rfl, rfl, rfl⟩
  · cases e
/-- as values -/
theorem ev_one {op} {fa : Ex} (ha : EV X T a fa) : EV X T (.BoolOp op [a] pos) fa := let ⟨t, p, h⟩ := ha; ⟨t, pe_one p, h⟩
theorem ev_and {fa fb : Ex} (ha : EV X T a fa) (hb : EV X T (.BoolOp .And (b :: rest) pos) fb) : EV X T (.BoolOp .And (a :: b :: rest) pos) (eAnd fa fb) := by
  obtain ⟨ta, pa, ha⟩ := ha
  obtain ⟨tb, pb, hb⟩ := hb
  refine ⟨_, pe_and pa pb, fun env o env' hf G σ H L Lx hR hS Q hQ => ?_⟩
  unfold eAnd at hf
  obtain ⟨⟨o1, env1⟩, e1, hf⟩ := bind_eq hf
  obtain ⟨k1, e2, hf⟩ := bind_eq hf
  refine ha env o1 env1 e1 G σ H L Lx hR hS _ fun G1 v1 H1 L1 Lo1 s1 ot1 R1 S1 => ?_
  obtain ⟨rfl, rfl, rfl⟩ := bool_of ot1 e2
  refine ⟨k1, rfl, ?_⟩
  cases k1 with
  | true =>
    simp only [if_true] at hf ⊢
    exact hb env1 o env' hf G1 σ H1 L1 Lx R1 S1 Q fun G2 v2 H2 L2 Lo2 s2 o2 R2 S2 => hQ G2 v2 H2 L2 Lo2 (s1.trans s2) o2 R2 S2
  | false =>
    simp only [Bool.false_eq_true, if_false] at hf ⊢
    cases hf
    exact hQ G1 _ H1 L1 [] s1 (.d (.bl false)) R1 S1
theorem ev_or {fa fb : Ex} (ha : EV X T a fa) (hb : EV X T (.BoolOp .Or (b :: rest) pos) fb) : EV X T (.BoolOp .Or (a :: b :: rest) pos) (eOr fa fb) := by
  obtain ⟨ta, pa, ha⟩ := ha
  obtain ⟨tb, pb, hb⟩ := hb
  refine ⟨_, pe_or pa pb, fun env o env' hf G σ H L Lx hR hS Q hQ => ?_⟩
  unfold eOr at hf
  obtain ⟨⟨o1, env1⟩, e1, hf⟩ := bind_eq hf
  obtain ⟨k1, e2, hf⟩ := bind_eq hf
  refine ha env o1 env1 e1 G σ H L Lx hR hS _ fun G1 v1 H1 L1 Lo1 s1 ot1 R1 S1 => ?_
  obtain ⟨rfl, rfl, rfl⟩ := bool_of ot1 e2
  refine ⟨k1, rfl, ?_⟩
  cases k1 with
  | true =>
    simp only [if_true] at hf ⊢
    cases hf
    exact hQ G1 _ H1 L1 [] s1 (.d (.bl true)) R1 S1
  | false =>
    simp only [Bool.false_eq_true, if_false] at hf ⊢
    exact hb env1 o env' hf G1 σ H1 L1 Lx R1 S1 Q fun G2 v2 H2 L2 Lo2 s2 o2 R2 S2 => hQ G2 v2 H2 L2 Lo2 (s1.trans s2) o2 R2 S2
/-- not a, as a value -/
theorem ev_not {fa : Ex} (ha : EV X T a fa) : EV X T (.UnaryOp .Not a pos) (eNot fa) := by
  obtain ⟨ta, pa, ha⟩ := ha
  refine ⟨_, pe_not pa, fun env o env' hf G σ H L Lx hR hS Q hQ => ?_⟩
  unfold eNot at hf
  obtain ⟨⟨o1, env1⟩, e1, hf⟩ := bind_eq hf
  obtain ⟨k1, e2, hf⟩ := bind_eq hf
  cases hf
  refine ha env o1 env1 e1 G σ H L Lx hR hS _ fun G1 v1 H1 L1 Lo1 s1 ot1 R1 S1 => ?_
  obtain ⟨rfl, rfl, rfl⟩ := bool_of ot1 e2
  exact ⟨k1, rfl, hQ G1 _ H1 L1 [] s1 (.d (.bl _)) R1 S1⟩
theorem ev_if {fc : ExB} {fa fb : Ex} (hc : BV X T c fc) (ha : EV X T a fa) (hb : EV X T b fb) : EV X T (.IfExp c a b pos) (eIf fc fa fb) := by
  obtain ⟨tc, pc, hc⟩ := hc
  obtain ⟨ta, pa, ha⟩ := ha
  obtain ⟨tb, pb, hb⟩ := hb
  refine ⟨_, pe_ifExp pc pa pb, fun env o env' hf G σ H L Lx hR hS Q hQ => ?_⟩
  unfold eIf at hf
  obtain ⟨⟨k1, env1⟩, e1, hf⟩ := bind_eq hf
  refine hc env k1 env1 e1 G σ H L Lx hR hS _ fun G1 H1 L1 s1 R1 S1 => ?_
  cases k1 with
  | true =>
    simp only [if_true] at hf ⊢
    exact ha env1 o env' hf G1 σ H1 L1 Lx R1 S1 Q fun G2 v2 H2 L2 Lo2 s2 o2 R2 S2 => hQ G2 v2 H2 L2 Lo2 (s1.trans s2) o2 R2 S2
  | false =>
    simp only [Bool.false_eq_true, if_false] at hf ⊢
    exact hb env1 o env' hf G1 σ H1 L1 Lx R1 S1 Q fun G2 v2 H2 L2 Lo2 s2 o2 R2 S2 => hQ G2 v2 H2 L2 Lo2 (s1.trans s2) o2 R2 S2
/-- a op1 b op2 c -/
theorem ev_chain {op op' : CmpOp} {g g' : O → O → Option Bool} {fa fb fc : Ex} (hg : Cmp2 X T op g) (hg' : Cmp2 X T op' g') (ha : EV X T a fa) (hb : EV X T b fb) (hc : EV X T c fc) (hm : lastMarks [op, op'] [b, c] = false := by with_unfolding_all rfl) :
    EV X T (.Compare a [op, op'] [b, c] pos) (eChain g g' fa fb fc) := by
  obtain ⟨ta, pa, ha⟩ := ha
  obtain ⟨tb, pb, hb⟩ := hb
  obtain ⟨tc, pc, hc⟩ := hc
  refine ⟨_, pe_chain can2_ok can2_ok pa pb pc hm, fun env o env' hf G σ H L Lx hR hS Q hQ => ?_⟩
  unfold eChain at hf
  obtain ⟨⟨o1, env1⟩, e1, hf⟩ := bind_eq hf
  obtain ⟨⟨o2, env2⟩, e2, hf⟩ := bind_eq hf
  obtain ⟨k, e3, hf⟩ := bind_eq hf
  refine ha env o1 env1 e1 G σ H L Lx hR hS _ fun G1 v1 H1 L1 Lo1 s1 ot1 R1 S1 => ?_
  refine hb env1 o2 env2 e2 G1 σ H1 L1 (Lo1 ++ Lx) R1 S1.comm3 _ fun G2 v2 H2 L2 Lo2 s2 ot2 R2 S2 => ?_
  refine hg.can (ot_mono s2 ot1) ot2 (fun c hc => List.mem_append_right _ (List.mem_append_right _ (List.mem_append_left _ hc))) (fun c hc => List.mem_append_left _ hc) S2 e3 ?_
  refine ⟨k, rfl, ?_⟩
  cases k with
  | true =>
    simp only [if_true] at hf ⊢
    obtain ⟨⟨o3, env3⟩, e4, hf⟩ := bind_eq hf
    obtain ⟨k', e5, hf⟩ := bind_eq hf
    cases hf
    refine hc env2 o3 env3 e4 G2 σ H2 L2 (Lo2 ++ (Lo1 ++ Lx)) R2 S2.comm3 _ fun G3 v3 H3 L3 Lo3 s3 ot3 R3 S3 => ?_
    refine hg'.can (ot_mono s3 ot2) ot3 (fun c hc => List.mem_append_right _ (List.mem_append_right _ (List.mem_append_left _ hc))) (fun c hc => List.mem_append_left _ hc) S3 e5 ?_
    exact hQ G3 _ H3 L3 [] ((s1.trans s2).trans s3) (.d (.bl k')) R3 (S3.sub (show Sub (L3 ++ Lx) _ from Sub.trans (L' := L3 ++ (Lo2 ++ (Lo1 ++ Lx))) .drop (Sub.left (Sub.trans (L' := Lo1 ++ Lx) .drop .drop))))
  | false =>
    simp only [Bool.false_eq_true, if_false] at hf ⊢
    cases hf
    exact hQ G2 _ H2 L2 [] (s1.trans s2) (.d (.bl false)) R2 (S2.sub (sub_tail2 (E := [])))

/-! ### argument lists -/
inductive ArgR (K : PySem.W.Frag) (G : Hp) (σ : St) (env : Ev) : List (Option Nat) → List O → List V → List Cell → Prop where
  | nil : ArgR K G σ env [] [] [] []
  | v {o : O} {v : V} {c : List Cell} {own : List (Option Nat)} {os : List O} {vs : List V} {Lo : List Cell} : OT K G o v c → ArgR K G σ env own os vs Lo → ArgR K G σ env (none :: own) (o :: os) (v :: vs) (c ++ Lo)
  | s {j : Nat} {o : O} {v : V} {own : List (Option Nat)} {os : List O} {vs : List V} {Lo : List Cell} : slot env j = some o → σ[j]? = some (some v) → ArgR K G σ env own os vs Lo → ArgR K G σ env (some j :: own) (o :: os) (v :: vs) Lo
theorem ArgR.mono {K : PySem.W.Frag} {G G' : Hp} {σ : St} {env : Ev} {own : List (Option Nat)} {os : List O} {vs : List V} {Lo : List Cell} (m : Same G G') (h : ArgR K G σ env own os vs Lo) : ArgR K G' σ env own os vs Lo := by
  induction h with
  | nil => exact .nil
  | v h _ ih => exact .v (ot_mono m h) ih
  | s h1 h2 _ ih => exact .s h1 h2 ih
def AV (X : Cx) (T : TabsT) (es : List Expr) (own : List (Option Nat)) (f : ExA) : Prop := ∃ t : TA, PA X es t ∧ ∀ (env : Ev) (os : List O) (env' : Ev), f env = some (os, env') → ∀ (G : Hp) (σ : St) (H : Hp) (L Lx : List Cell), RelS X.K G env σ L → Sep T G H (L ++ Lx) →
  ∀ Q : List V → Hp → Prop, (∀ (G' : Hp) (vs : List V) (H' : Hp) (L' Lo : List Cell), Same G G' → ArgR X.K G' σ env' own os vs Lo → RelS X.K G' env' σ L' → Sep T G' H' (Lo ++ (L' ++ Lx)) → Q vs H') → t σ H Q
theorem av_nil : AV X T [] [] aNil := ⟨_, pa_nil, fun env os env' hf G σ H L Lx hR hS Q hQ => by
  cases hf
  exact hQ G [] H L [] (.refl _) .nil hR hS⟩
theorem av_cons {fa : Ex} {own : List (Option Nat)} {fr : ExA} (ha : EV X T e fa) (hr : AV X T es own fr) (hs : starEach (e :: es) X.env = (false, eval e X.env) :: starEach es X.env := by rfl) : AV X T (e :: es) (none :: own) (aCons fa fr) := by
  obtain ⟨ta, pa, ha⟩ := ha
  obtain ⟨tr, pr, hr⟩ := hr
  refine ⟨_, pa_cons pa pr hs, fun env os env' hf G σ H L Lx hR hS Q hQ => ?_⟩
  unfold aCons at hf
  obtain ⟨⟨o1, env1⟩, e1, hf⟩ := bind_eq hf
  obtain ⟨⟨os2, env2⟩, e2, hf⟩ := bind_eq hf
  cases hf
  refine ha env o1 env1 e1 G σ H L Lx hR hS _ fun G1 v1 H1 L1 Lo1 s1 ot1 R1 S1 => ?_
  refine hr env1 os2 env2 e2 G1 σ H1 L1 (Lo1 ++ Lx) R1 S1.comm3 _ fun G2 vs2 H2 L2 Lo2 s2 ar2 R2 S2 => ?_
  refine hQ G2 (v1 :: vs2) H2 L2 (Lo1 ++ Lo2) (s1.trans s2) (.v (ot_mono s2 ot1) ar2) R2 (S2.sub (.perm ?_))
  refine ((List.perm_append_comm_assoc L2 Lo1 Lx).append_left Lo2).trans ?_
  refine (List.perm_append_comm_assoc Lo2 Lo1 _).trans ?_
  rw [List.append_assoc]
theorem av_own {x : Str} {own : List (Option Nat)} {fr : ExA} (j : Nat) (hr : AV X T es own fr) (hN : X.N[j]? = some x := by rfl) (hv : Vis X.env.scope x := by first | exact Or.inl rfl | exact Or.inr (Or.inl rfl) | exact Or.inr (Or.inr rfl)) (hd : (x == ("__debug__" : Str)) = false := by decide)
    (hcd : (x == ("__classdict__" : Str)) = false := by decide) (hs : starEach (.Name x pos :: es) X.env = (false, eval (.Name x pos) X.env) :: starEach es X.env := by rfl) : AV X T (.Name x pos :: es) (some j :: own) (aOwn j fr) := by
  obtain ⟨tr, pr, hr⟩ := hr
  refine ⟨_, pa_cons (pe_var hN hv hd hcd) pr hs, fun env os env' hf G σ H L Lx hR hS Q hQ => ?_⟩
  unfold aOwn at hf
  obtain ⟨o0, e0, hf⟩ := bind_eq hf
  obtain ⟨⟨os2, env2⟩, e2, hf⟩ := bind_eq hf
  obtain ⟨o1, e1, hf⟩ := bind_eq hf
  cases hf
  obtain ⟨v, c, h1, h2, h3⟩ := rel_get hR e0
  refine ⟨v, h1, ?_⟩
  refine hr env os2 env2 e2 G σ H L Lx hR hS _ fun G2 vs2 H2 L2 Lo2 s2 ar2 R2 S2 => ?_
  exact hQ G2 (v :: vs2) H2 L2 Lo2 s2 (.s e1 h1 ar2) R2 S2
/-- all of a display's items known from now on -/
theorem frzAll_of {K : PySem.W.Frag} {σ : St} {env : Ev} : ∀ {own : List (Option Nat)} {os : List O} {vs : List V} {Lo L : List Cell} {xs : List D} {G H : Hp}, ArgR K G σ env own os vs Lo → (∀ x ∈ own, x = none) → frzAll os = some xs → Sep T G H (Lo ++ L) → ∃ G', Same G G' ∧ DqAll K G' vs xs ∧ Sep T G' H L
  | _, _, _, _, _, _, G, _, .nil, _, e, S => by
    cases e
    exact ⟨G, .refl _, .nil, S⟩
  | _, _, _, _, L, _, G, H, .v (c := c) (Lo := Lo) h hs, hn, e, S => by
    unfold frzAll at e
    obtain ⟨x, e1, e⟩ := bind_eq e
    obtain ⟨xs, e2, e⟩ := bind_eq e
    cases e
    rw [List.append_assoc] at S
    obtain ⟨G1, m1, d1, S1⟩ := frz_of h e1 S
    obtain ⟨G2, m2, d2, S2⟩ := frzAll_of (hs.mono m1) (fun x hx => hn x (List.mem_cons_of_mem _ hx)) e2 S1
    exact ⟨G2, m1.trans m2, .cons (dp_mono m2 _ _ d1) d2, S2⟩
  | _, _, _, _, _, _, _, _, .s _ _ _, hn, _, _ => by
    have := hn _ List.mem_cons_self
    cases this
theorem ev_tup {x1} {own : List (Option Nat)} {fs : ExA} (h : AV X T es own fs) (hn : ∀ x ∈ own, x = none := by decide) : EV X T (.Tuple es x1 pos) (eTup fs) := by
  obtain ⟨t, p, h⟩ := h
  refine ⟨_, pe_tup p, fun env o env' hf G σ H L Lx hR hS Q hQ => ?_⟩
  unfold eTup at hf
  obtain ⟨⟨os, env1⟩, e1, hf⟩ := bind_eq hf
  obtain ⟨xs, e2, hf⟩ := bind_eq hf
  split at hf
  · rename_i hl
    cases hf
    refine h env os env1 e1 G σ H L Lx hR hS _ fun G1 vs H1 L1 Lo1 s1 ar R1 S1 => ?_
    obtain ⟨G2, m2, d2, S2⟩ := frzAll_of ar hn e2 S1
    refine ⟨by rw [dps_len d2]; exact Nat.le_trans hl (by decide), fun p hp => ?_⟩
    have m3 := same_new (o := .tup vs) (S2.fresh hp).1
    exact hQ _ (.ref p) _ L1 [] ((s1.trans m2).trans m3) (.d (.tup upd_same (dps_mono m3 _ _ d2))) (rel_mono (m2.trans m3) R1) (S2.frozen hp)
  · cases hf
theorem ev_lst {own : List (Option Nat)} {fs : ExA} (h : AV X T es own fs) (hn : ∀ x ∈ own, x = none := by decide) : EV X T (.List es pos) (eLst fs) := by
  obtain ⟨t, p, h⟩ := h
  refine ⟨_, pe_lst p, fun env o env' hf G σ H L Lx hR hS Q hQ => ?_⟩
  unfold eLst at hf
  obtain ⟨⟨os, env1⟩, e1, hf⟩ := bind_eq hf
  obtain ⟨xs, e2, hf⟩ := bind_eq hf
  split at hf
  · rename_i hl
    cases hf
    refine h env os env1 e1 G σ H L Lx hR hS _ fun G1 vs H1 L1 Lo1 s1 ar R1 S1 => ?_
    obtain ⟨G2, m2, d2, S2⟩ := frzAll_of ar hn e2 S1
    refine ⟨by rw [dps_len d2]; exact Nat.le_trans hl (by decide), fun p hp => ?_⟩
    exact hQ _ (.ref p) _ L1 [(p, .lst vs)] (s1.trans m2) (.l d2) (rel_mono m2 R1) (S2.owned hp)
  · cases hf

/-! ### subscripts -/
def canI (X : Cx) : R2 := fun x y H Q => ∀ (value slice : Expr) (pins : List (Addr × Obj)) (s : Shared) (σ : St) (v u : Value), Inv X pins σ H s → RelV x v → RelV y u →
    subscripted slice false v u = operate [v, u] (getItem v u) → wpAny (model X.prog X.w) X.A (subscriptTail value slice v u) (L2.EP X pins σ Q) X.xe s
theorem canI_ok : IxR X (canI X) := fun value slice pins s σ H x y v u Q I rx ry h hs => h value slice pins s σ v u I rx ry hs
theorem int_of {K : PySem.W.Frag} {G : Hp} {o : O} {v : V} {c : List Cell} {k : Int} (h : OT K G o v c) (e : oInt o = some k) : v = .int k ∧ c = [] ∧ o = .d (.int k) := by
  unfold oInt at e
  split at e
  · cases e
    cases h with
    | d h =>
      cases h
      exact ⟨rfl, rfl, rfl⟩
  · cases e
theorem at_of {K : PySem.W.Frag} {G : Hp} {vs : List V} {xs : List D} {i : Int} {z : D} (h : DqAll K G vs xs) (e : L2.atI xs i = some z) : ∃ v, L2.atI vs i = some v ∧ Dq K G v z := by
  unfold L2.atI at e ⊢
  obtain ⟨j, e1, e2⟩ := bind_eq e
  rw [dps_len h, e1]
  obtain ⟨v, h1, h2⟩ := dps_get h e2
  exact ⟨v, h1, h2⟩
theorem o2_item : Op2 X T (canI X) gItem := by
  intro G H L x y z vx vy cx cy ox oy mx my S ez Q hQ value slice pins s σ v u I rx ry hs
  unfold gItem dItem at ez
  obtain ⟨xs, e1, ez⟩ := bind_eq ez
  obtain ⟨k, e2, ez⟩ := bind_eq ez
  obtain ⟨w, e3, ez⟩ := bind_eq ez
  cases ez
  obtain ⟨rfl, rfl, rfl⟩ := int_of oy e2
  obtain ⟨p, vs, rfl, hp, hq⟩ := seq_of ox mx S e1
  obtain ⟨vw, h1, h2⟩ := at_of hq e3
  have fin := hQ G vw H [] (.refl _) (.d h2) S
  rcases hp with hp | hp
  · exact ix_list value slice pins s σ H _ _ v u Q I rx ry ⟨p, vs, k, vw, rfl, rfl, hp, h1, fin⟩ hs
  · exact ix_tup value slice pins s σ H _ _ v u Q I rx ry ⟨p, vs, k, vw, rfl, rfl, hp, h1, fin⟩ hs
theorem ev_sub {fa fb : ExP} (ha : OV X T a fa) (hb : OV X T b fb) (hs : PlainIx b := by exact fun _ _ => rfl) : EV X T (.Subscript a b pos) (eOp2 gItem fa fb) := ev_of2 o2_item ha hb fun pa pb => pe_ix canI_ok pa pb hs

/-! ### calls of built-ins -/
def canC (X : Cx) (f : Value) : List V → Hp → VK → Prop := fun xs H Q => ∀ (pins : List (Addr × Obj)) (s : Shared) (σ : St) (us : List Value), Inv X pins σ H s → Vals xs us → wpAny (model X.prog X.w) X.A (call f us) (L2.EP X pins σ Q) X.xe s
theorem canC_ok {f : Value} : CallR X f (canC X f) := fun pins s σ H xs us Q I r h => h pins s σ us I r
theorem can_of {f : Value} {r : List V → Hp → VK → Prop} (h : CallR X f r) {xs : List V} {H : Hp} {Q : VK} (q : r xs H Q) : canC X f xs H Q := fun pins s σ us I rv => h pins s σ H xs us Q I rv q
/-- a call of a built-in function, a built-in type, with one argument -/
theorem ev_b1 {x : Str} {p : Pos} {id : String} {g : O → Option O} {fa : ExP} (hg : Op1 X T (fun v H Q => canC X (.builtin id) [v] H Q) g) (hm : X.mg x = none) (ha : OV X T a fa) (hv : bootBuiltins x = some (.builtin id) := by decide +kernel) (hgl : Gl X x := by rfl) (hn : x ≠ "__name__" := by decide)
    (hdb : (x == ("__debug__" : Str)) = false := by decide) (he : starEach [a] X.env = (false, eval a X.env) :: starEach [] X.env := by rfl) : EV X T (.Call (.Name x p) [a] [] pos) (eOp1 g fa) :=
  ev_of1 hg ha fun {ta} pa => ⟨fun pins s σ H Q I h => (pe_callB canC_ok hgl hm hv (pa_cons pa pa_nil he) hn hdb he (by rfl)).run pins s σ H Q I h⟩
theorem ev_t1 {x : Str} {p : Pos} {id : String} {g : O → Option O} {fa : ExP} (hg : Op1 X T (fun v H Q => canC X (.type id) [v] H Q) g) (hm : X.mg x = none) (ha : OV X T a fa) (hv : bootBuiltins x = some (.type id) := by decide +kernel) (hgl : Gl X x := by rfl) (hn : x ≠ "__name__" := by decide)
    (hdb : (x == ("__debug__" : Str)) = false := by decide) (he : starEach [a] X.env = (false, eval a X.env) :: starEach [] X.env := by rfl) : EV X T (.Call (.Name x p) [a] [] pos) (eOp1 g fa) :=
  ev_of1 hg ha fun {ta} pa => ⟨fun pins s σ H Q I h => (pe_callTy canC_ok hgl hm hv (pa_cons pa pa_nil he) hn hdb he (by rfl)).run pins s σ H Q I h⟩
theorem o1_len : Op1 X T (fun v H Q => canC X (.builtin "len") [v] H Q) gLen := by
  intro G H L x z vx cx ox mx S ez Q hQ
  have seq : ∀ {xs : List D}, oSeq x = some xs → z = .d (.int xs.length) → canC X (.builtin "len") [vx] H Q := fun {xs} e ez => by
    subst ez
    obtain ⟨p, vs, rfl, hp, hq⟩ := seq_of ox mx S e
    have fin := hQ G (.int vs.length) H [] (.refl _) (.d (by rw [dps_len hq]; exact .int _)) S
    exact can_of call_len_seq ⟨p, vs, rfl, hp, fin⟩
  unfold gLen at ez
  split at ez
  · rename_i kvs
    cases ez
    cases ox with
    | @m _ _ p _ h =>
     cases h with
     | @k _ ks h =>
      have hl : kvs.length = ks.length := Paired.length h
      exact can_of call_lenD ⟨p, ks, rfl, (S.at_ _ (mx _ List.mem_cons_self)).1, hQ G _ H [] (.refl _) (.d (by rw [hl]; exact .int _)) S⟩
  · rename_i rows
    cases ez
    cases ox with
    | @g _ p vs c h => exact can_of call_len_seq ⟨p, vs, rfl, .inl (.inl (.inl (S.at_ _ (mx _ List.mem_cons_self)).1)), hQ G _ H [] (.refl _) (.d (by rw [rows_len h]; exact .int _)) S⟩
  · obtain ⟨xs, e1, ez⟩ := bind_eq ez
    cases ez
    exact seq e1 rfl
theorem o1_int : Op1 X T (fun v H Q => canC X (.type "int") [v] H Q) gInt := by
  intro G H L x z vx cx ox mx S ez Q hQ
  unfold gInt at ez
  split at ez
  · cases ez
    cases ox with
    | d ox =>
      cases ox
      exact can_of call_int1 (.inl ⟨_, rfl, hQ G _ H [] (.refl _) (.d (.int _)) S⟩)
  · cases ez
    cases ox with
    | d ox =>
      cases ox
      exact can_of call_int1 (.inr ⟨_, rfl, hQ G _ H [] (.refl _) (.d (.int _)) S⟩)
  · cases ez
end
end Sh

/-! Shift layer 5: calls of own defs, isinstance, what is walked, comprehensions. -/
namespace Sh
open PySem PySem.Spec PyProof.Rows L2
/-- what a def promises: F of the arguments -/
def spD (K : PySem.W.Frag) (T : TabsT) (F : Fn) : Sp := fun vs H Q _ => ∃ (G : Hp) (os : List O) (cs Lx : List Cell) (r : O) (fs : List (Option O)), RelS K G (os.map some) (vs.map some) cs ∧ Sep T G H (cs ++ Lx) ∧ F os = some (r, fs) ∧
  ∀ (G' : Hp) (v : V) (H' : Hp) (cr cf : List Cell), Same G G' → OT K G' r v cr → RelS K G' fs (vs.map some) cf → Sep T G' H' (cr ++ (cf ++ Lx)) → Q v H'
section
variable {K : PySem.W.Frag} {T : TabsT} {G G' H : Hp} {σ : St}
/-- the owned places, each once -/
def ownOk : List (Option Nat) → Bool
  | [] => true
  | none :: r => ownOk r
  | some j :: r => !(r.contains (some j)) && ownOk r
theorem slot_set_ne {e : Ev} {i j : Nat} {x : Option O} (h : i ≠ j) : slot (e.set i x) j = slot e j := by
  unfold slot
  rw [List.getElem?_set_ne h]
theorem clearE_slot : ∀ {own : List (Option Nat)} {e : Ev} {j : Nat}, some j ∉ own → slot (clearE own e) j = slot e j
  | [], _, _, _ => rfl
  | none :: own, e, j, h => by
    unfold clearE
    exact clearE_slot fun z => h (List.mem_cons_of_mem _ z)
  | some i :: own, e, j, h => by
    unfold clearE
    rw [slot_set_ne (fun z => h (by rw [z]; exact List.mem_cons_self))]
    exact clearE_slot fun z => h (List.mem_cons_of_mem _ z)
theorem call_take {env : Ev} {own : List (Option Nat)} {os : List O} {vs : List V} {Lo : List Cell} (h : ArgR K G σ env own os vs Lo) : ∀ {L : List Cell}, ownOk own = true → RelS K G env σ L →
    ∃ cs Lr, RelS K G (os.map some) (vs.map some) cs ∧ RelS K G (clearE own env) σ Lr ∧ (Lo ++ L).Perm (cs ++ Lr) := by
  induction h with
  | nil => intro L _ hR; exact ⟨[], L, .nil, hR, .refl _⟩
  | @v o v c own os vs Lo h hs ih =>
    intro L hn hR
    obtain ⟨cs, Lr, a, b, p⟩ := ih (by simpa [ownOk] using hn) hR
    refine ⟨c ++ cs, Lr, .some h a, b, ?_⟩
    rw [List.append_assoc, List.append_assoc]
    exact p.append_left c
  | @s j o v own os vs Lo h1 h2 hs ih =>
    intro L hn hR
    simp only [ownOk, Bool.and_eq_true, Bool.not_eq_true', List.contains_eq_mem, decide_eq_false_iff_not] at hn
    obtain ⟨cs, Lr, a, b, p⟩ := ih hn.2 hR
    have h3 : slot (clearE own env) j = some o := by rw [clearE_slot hn.1]; exact h1
    obtain ⟨v', c, Lr', e1, e2, e3, e4⟩ := rel_take b h3
    rw [h2] at e1
    cases e1
    refine ⟨c ++ cs, Lr', .some e2 a, e4, p.trans ?_⟩
    refine (e3.append_left cs).trans ?_
    rw [List.append_assoc]
    exact List.perm_append_comm_assoc cs c Lr'
theorem slot_set_same {e : Ev} {j : Nat} : slot (e.set j none) j = none := by
  unfold slot
  rw [List.getElem?_set]
  split
  · split <;> rfl
  · rename_i hh
    exact absurd rfl hh
theorem clearE_none : ∀ {own : List (Option Nat)} {e : Ev} {j : Nat}, some j ∈ own → slot (clearE own e) j = none
  | none :: own, e, j, h => by
    unfold clearE
    exact clearE_none (by simpa using h)
  | some i :: own, e, j, h => by
    unfold clearE
    by_cases hij : i = j
    · subst hij
      exact slot_set_same
    · rw [slot_set_ne hij]
      exact clearE_none (by
        rcases List.mem_cons.mp h with z | z
        · cases z
          exact absurd rfl hij
        · exact z)
/-- the places are given back -/
theorem call_put {env : Ev} {own : List (Option Nat)} {os : List O} {vs : List V} {Lo : List Cell} (h : ArgR K G σ env own os vs Lo) : ∀ {fs : List (Option O)} {cf Lr : List Cell} {e : Ev}, ownOk own = true → (∀ j, some j ∈ own → slot e j = none) →
    RelS K G' fs (vs.map some) cf → RelS K G' e σ Lr → ∃ L', RelS K G' (putBack own fs e) σ L' ∧ Sub L' (cf ++ Lr) := by
  induction h with
  | nil =>
    intro fs cf Lr e _ _ hf hR
    cases hf
    exact ⟨Lr, hR, .refl⟩
  | @v o v c own os vs Lo h hs ih =>
    intro fs cf Lr e hn he hf hR
    have hn' : ownOk own = true := by simpa [ownOk] using hn
    have he' : ∀ j, some j ∈ own → slot e j = none := fun j z => he j (List.mem_cons_of_mem _ z)
    cases hf with
    | none hf =>
      obtain ⟨L', a, b⟩ := ih hn' he' hf hR
      exact ⟨L', a, b⟩
    | some hf1 hf =>
      obtain ⟨L', a, b⟩ := ih hn' he' hf hR
      refine ⟨L', a, Sub.trans ?_ b⟩
      rw [List.append_assoc]
      exact .drop
  | @s j o v own os vs Lo h1 h2 hs ih =>
    intro fs cf Lr e hn he hf hR
    simp only [ownOk, Bool.and_eq_true, Bool.not_eq_true', List.contains_eq_mem, decide_eq_false_iff_not] at hn
    have hne : ∀ (x : Option O) (i : Nat), some i ∈ own → slot (e.set j x) i = none := fun x i z => by
      rw [slot_set_ne (fun q => hn.1 (by rw [q]; exact z))]
      exact he i (List.mem_cons_of_mem _ z)
    cases hf with
    | none hf =>
      have e1 := he j List.mem_cons_self
      obtain ⟨Lq, q1, q2⟩ := rel_forget hR j
      obtain ⟨L', a, b⟩ := ih hn.2 (hne none) hf q1
      exact ⟨L', a, Sub.trans q2.left b⟩
    | @some o' _ c' _ _ cf' hf1 hf =>
      obtain ⟨Lq, q1, q2⟩ := rel_put_at hR (he j List.mem_cons_self) h2 hf1
      obtain ⟨L', a, b⟩ := ih hn.2 (hne (some o')) hf q1
      refine ⟨L', a, Sub.trans (.perm ?_) b⟩
      rw [List.append_assoc]
      exact (List.perm_append_comm_assoc c' cf' Lr).trans (q2.symm.append_left cf')
end
section
variable {X : Cx} {T : TabsT} {a b c e : Expr} {pos : Pos} {rest es : List Expr}
theorem ev_call {k : Nat} {f : Addr} {fd : FuncData} {ps : List Str} {x : Str} {p : Pos} {F : Fn} {own : List (Option Nat)} {fas : ExA} (hF : FnOk X.prog X.w X.K X.mg X.base CX0 k f fd ps (spD X.K T F)) (hr : Room k X.A) (hm : X.mg x = some (.ref f)) (hk : PySem.W.keepIn X.K (.ref f) = true) (hb : Binds X.K fd ps [])
    (ha : AV X T (e :: es) own fas) (ho : ownOk own = true := by decide) (hg : Gl X x := by rfl) (hdb : (x == ("__debug__" : Str)) = false := by decide) (he : starEach (e :: es) X.env = (false, eval e X.env) :: starEach es X.env := by rfl) (hpl : (backTo pos (starEach es X.env)).any (·.1) = false := by rfl) :
    EV X T (.Call (.Name x p) (e :: es) [] pos) (eCall F own fas) := by
  obtain ⟨t, pa, h⟩ := ha
  refine ⟨_, pe_call hF hr hg hm hk hb .nil pass0 pa hdb he hpl, fun env o env' hf G σ H L Lx hR hS Q hQ => ?_⟩
  unfold eCall at hf
  obtain ⟨⟨os, env1⟩, e1, hf⟩ := bind_eq hf
  obtain ⟨⟨r, fs⟩, e2, hf⟩ := bind_eq hf
  cases hf
  refine h env os env1 e1 G σ H L Lx hR hS _ fun G1 vs H1 L1 Lo1 s1 ar R1 S1 => ?_
  obtain ⟨cs, Lr, q1, q2, q3⟩ := call_take ar ho R1
  refine ⟨G1, os, cs, Lr ++ Lx, r, fs, by simpa using q1, S1.sub (.perm ?_), e2, fun G2 v H2 cr cf s2 ot rf S2 => ?_⟩
  · rw [← List.append_assoc, ← List.append_assoc]
    exact q3.append_right Lx
  · obtain ⟨L', w1, w2⟩ := call_put (G' := G2) ar ho (fun j z => clearE_none z) (by simpa using rf) (rel_mono s2 q2)
    refine hQ G2 v H2 L' cr (s1.trans s2) ot w1 (S2.sub (Sub.left ?_))
    rw [← List.append_assoc]
    exact w2.right
/-- f() -/
theorem ev_call0 {k : Nat} {f : Addr} {fd : FuncData} {ps : List Str} {x : Str} {p : Pos} {F : Fn} (hF : FnOk X.prog X.w X.K X.mg X.base CX0 k f fd ps (spD X.K T F)) (hr : Room k X.A) (hm : X.mg x = some (.ref f)) (hk : PySem.W.keepIn X.K (.ref f) = true) (hb : Binds X.K fd ps [])
    (hg : Gl X x := by rfl) (hdb : (x == ("__debug__" : Str)) = false := by decide) : EV X T (.Call (.Name x p) [] [] pos) (eCall F [] aNil) := by
  refine ⟨_, pe_call0 hF hr hg hm hk hb .nil pass0 hdb, fun env o env' hf G σ H L Lx hR hS Q hQ => ?_⟩
  unfold eCall aNil at hf
  obtain ⟨⟨os, env1⟩, e1, hf⟩ := bind_eq hf
  cases e1
  obtain ⟨⟨r, fs⟩, e2, hf⟩ := bind_eq hf
  cases hf
  refine ⟨G, [], [], L ++ Lx, r, fs, .nil, hS, e2, fun G2 v H2 cr cf s2 ot rf S2 => ?_⟩
  cases rf
  exact hQ G2 v H2 L cr s2 ot (by simpa [putBack, clearE] using rel_mono s2 hR) S2

/-! ### isinstance -/
theorem ty_of {K : PySem.W.Frag} {G H : Hp} {L : List Cell} {o : O} {v : V} {c : List Cell} (h : OT K G o v c) (m : ∀ x ∈ c, x ∈ L) (S : Sep T G H L) (hd : (gIsa [] o).isSome = true) : TyX K H v (.type (tyName o)) := by
  have sq : ∀ {p vs}, SqL K H p vs → TyX K H (.ref p) (.type "list") := fun {p vs} z => by
    rcases z with (z | ⟨o, z⟩) | ⟨o, its, n, z1, z2, _⟩
    · exact .base (.lst z)
    · exact .base (.frz z)
    · exact .kList z1 z2
  have sqt : ∀ {p vs}, SqT K H p vs → TyX K H (.ref p) (.type "tuple") := fun {p vs} z => by
    rcases z with (z | ⟨o, z⟩) | ⟨o, its, n, z1, z2, _⟩
    · exact .base (.tup z)
    · exact .fTuple z
    · exact .kTuple z1 z2
  cases h with
  | d h =>
    cases h with
    | non => exact .base .non
    | bl b => exact .base (.bl b)
    | int i => exact .base (.int i)
    | str x => exact .base (.str x)
    | lst h _ => exact sq (S.same.seq h)
    | tup h _ => exact sqt (same_tup S.same h)
    | dcK h _ => exact .base (.dK (S.same _ _ h))
    | dcT h _ => exact .base (.dT (S.same _ _ h))
    | rf => cases hd
    | rng h => cases hd
  | l h => exact .base (.lst (S.at_ _ (m _ List.mem_cons_self)).1)
  | m h =>
    cases h with
    | k _ => exact .base (.dK (S.at_ _ (m _ List.mem_cons_self)).1)
    | t _ => exact .base (.dT (S.at_ _ (m _ List.mem_cons_self)).1)
  | g h => exact .base (.lst (S.at_ _ (m _ List.mem_cons_self)).1)
  | k _ _ => cases hd
theorem gIsa_eq {ns : List String} {x z : O} (h : gIsa ns x = some z) : (gIsa [] x).isSome = true ∧ z = .d (.bool (ns.any (isaTy (tyName x)))) := by
  cases x with
  | d x =>
    cases x with
    | dict kvs =>
      cases kvs with
      | nil =>
        cases h
        exact ⟨rfl, rfl⟩
      | cons a b =>
        obtain ⟨a1, a2⟩ := a
        cases a1 with
        | none => cases h
        | bool b => cases b <;> cases h <;> exact ⟨rfl, rfl⟩
        | _ => cases h <;> exact ⟨rfl, rfl⟩
    | _ =>
      cases h
      exact ⟨rfl, rfl⟩
  | m t kvs =>
    cases h
    exact ⟨rfl, rfl⟩
  | k t kvs => cases h
  | _ =>
    cases h
    exact ⟨rfl, rfl⟩
def tyNames : List String := ["NoneType", "bool", "int", "str", "list", "tuple", "dict"]
theorem tyName_mem {x : O} (h : (gIsa [] x).isSome = true) : tyName x ∈ tyNames := by
  cases x with
  | d x =>
    cases x with
    | dict kvs =>
      cases kvs with
      | nil => simp [tyNames]
      | cons a b => simp [tyNames]
    | _ => simp [tyNames]
  | m t kvs =>
    simp [tyNames]
  | k t kvs => cases h
  | _ => simp [tyNames]
theorem kit_all : ∀ t ∈ tyNames, ∀ n ∈ ["int", "bool", "str", "list", "tuple", "dict"], kitB t n = some (isaTy t n) := by decide +kernel
/-- isinstance(x, C), C a built-in type -/
theorem ev_isa {n : Str} {p1 p2 : Pos} {nm : String} {fa : ExP} (hm : X.mg "isinstance" = none) (hmn : X.mg n = none) (ha : OV X T a fa) (hv : bootBuiltins n = some (.type nm) := by decide +kernel) (hi : bootBuiltins "isinstance" = some (.builtin "isinstance") := by decide +kernel)
    (hnm : nm ∈ ["int", "bool", "str", "list", "tuple", "dict"] := by decide) (hg : Gl X "isinstance" := by rfl) (hgn : Gl X n := by rfl) (hnn : n ≠ "__name__" := by decide) (hnd : (n == ("__debug__" : Str)) = false := by decide)
    (hs1 : starEach [a, .Name n p2] X.env = (false, eval a X.env) :: starEach [.Name n p2] X.env := by rfl) (hs2 : starEach [.Name n p2] X.env = (false, eval (.Name n p2) X.env) :: starEach [] X.env := by rfl)
    (hpl : (backTo pos (starEach [.Name n p2] X.env)).any (·.1) = false := by rfl) : EV X T (.Call (.Name "isinstance" p1) [a, .Name n p2] [] pos) (eOp1 (gIsa [nm]) fa) := by
  refine ev_of1 (r := fun v H Q => canC X (.builtin "isinstance") [v, .ty nm] H Q) ?_ ha fun {ta} pa => ⟨fun pins s σ H Q I h => (pe_callB canC_ok hg hm hi (pa_cons pa (pa_cons (pe_bltn (v := .ty nm) hgn hmn hv rfl hnn hnd) pa_nil hs2) hs1) (by decide) (by decide) hs1 hpl).run pins s σ H Q I h⟩
  intro G H L x z vx cx ox mx S ez Q hQ
  obtain ⟨hnd, rfl⟩ := gIsa_eq ez
  refine can_of call_isi ⟨vx, .ty nm, .type (tyName x), .type nm, isaTy (tyName x) nm, rfl, .ty nm, ty_of ox mx S hnd, kit_ty (kit_all _ (tyName_mem hnd) nm hnm), ?_⟩
  refine hQ G _ H [] (.refl _) (.d ?_) S
  simp only [List.any_cons, List.any_nil, Bool.or_false]
  exact .bl _
/-- isinstance(x, (C, D)) -/
theorem ev_isa2 {n m : Str} {p1 p2 p3 p4 : Pos} {k5 : Nat} {nm nm2 : String} {fa : ExP} (hm : X.mg "isinstance" = none) (hmn : X.mg n = none) (hmm : X.mg m = none) (ha : OV X T a fa) (hv : bootBuiltins n = some (.type nm) := by decide +kernel) (hv2 : bootBuiltins m = some (.type nm2) := by decide +kernel) (hi : bootBuiltins "isinstance" = some (.builtin "isinstance") := by decide +kernel)
    (hnm : nm ∈ ["int", "bool", "str", "list", "tuple", "dict"] := by decide) (hnm2 : nm2 ∈ ["int", "bool", "str", "list", "tuple", "dict"] := by decide) (hg : Gl X "isinstance" := by rfl) (hgn : Gl X n := by rfl) (hnn : n ≠ "__name__" := by decide) (hnd : (n == ("__debug__" : Str)) = false := by decide) (hgm : Gl X m := by rfl) (hmn' : m ≠ "__name__" := by decide) (hmd : (m == ("__debug__" : Str)) = false := by decide)
    (hs1 : starEach [a, .Tuple [.Name n p2, .Name m p3] k5 p4] X.env = (false, eval a X.env) :: starEach [.Tuple [.Name n p2, .Name m p3] k5 p4] X.env := by rfl) (hs2 : starEach [.Tuple [.Name n p2, .Name m p3] k5 p4] X.env = (false, eval (.Tuple [.Name n p2, .Name m p3] k5 p4) X.env) :: starEach [] X.env := by rfl)
    (hs3 : starEach [.Name n p2, .Name m p3] X.env = (false, eval (.Name n p2) X.env) :: starEach [.Name m p3] X.env := by rfl) (hs4 : starEach [.Name m p3] X.env = (false, eval (.Name m p3) X.env) :: starEach [] X.env := by rfl)
    (hpl : (backTo pos (starEach [.Tuple [.Name n p2, .Name m p3] k5 p4] X.env)).any (·.1) = false := by rfl) : EV X T (.Call (.Name "isinstance" p1) [a, .Tuple [.Name n p2, .Name m p3] k5 p4] [] pos) (eOp1 (gIsa [nm, nm2]) fa) := by
  refine ev_of1 (r := fun v H Q => [V.ty nm, V.ty nm2].length ≤ sizeLine ∧ ∀ tp, H tp = none → canC X (.builtin "isinstance") [v, .ref tp] (upd H tp (.tup [.ty nm, .ty nm2])) Q) ?_ ha fun {ta} pa => ⟨fun pins s σ H Q I h =>
    (pe_callB (canC_ok (X := X)) hg hm hi (pa_cons pa (pa_cons (pe_tup (pa_cons (pe_bltn (v := .ty nm) hgn hmn hv rfl hnn hnd) (pa_cons (pe_bltn (v := .ty nm2) hgm hmm hv2 rfl hmn' hmd) pa_nil hs4) hs3)) pa_nil hs2) hs1) (by decide) (by decide) hs1 hpl).run pins s σ H Q I h⟩
  · intro G H L x z vx cx ox mx S ez Q hQ
    refine ⟨by show 2 ≤ sizeLine; decide, fun tp htp => ?_⟩
    obtain ⟨hnd, rfl⟩ := gIsa_eq ez
    have mm := same_new (o := .tup [.ty nm, .ty nm2]) (S.fresh htp).1
    have S2 := S.frozen (o := .tup [.ty nm, .ty nm2]) htp
    refine can_of call_isiT ⟨vx, tp, [.ty nm, .ty nm2], .type (tyName x), [.type nm, .type nm2], isaTy (tyName x) nm || isaTy (tyName x) nm2, rfl, upd_same, .cons (.ty nm) (.cons (.ty nm2) .nil), ty_of (ot_mono mm ox) mx S2 hnd, ?_, ?_⟩
    · refine kitAny_cons (kit_ty (kit_all _ (tyName_mem hnd) nm hnm)) (fun z => ?_) fun z => by rw [z]; rfl
      refine kitAny_cons (kit_ty (kit_all _ (tyName_mem hnd) nm2 hnm2)) (fun z2 => ?_) fun z2 => by rw [z2, Bool.or_true]
      rw [z, z2]
      exact kitAny_nil
    · refine hQ _ _ _ [] mm (.d ?_) S2
      simp only [List.any_cons, List.any_nil, Bool.or_false]
      exact .bl _

/-! ### what is walked -/
/-- at each heap that holds G0, it goes through ds -/
def WalkD (K : PySem.W.Frag) (T : TabsT) (J : It) (ds : List D) (G0 : Hp) : Prop := ∀ (i : Nat) (G H : Hp) (L : List Cell), Same G0 G → Sep T G H L →
  (∀ d, ds[i]? = some d → J.go i H ∧ ∀ x H', J.yld i H x H' → ∃ G', Same G G' ∧ Dq K G' x d ∧ Sep T G' H' L) ∧ (i = ds.length → J.stop i H)
def IV (X : Cx) (T : TabsT) (tg e : Expr) (f : ExI) : Prop := ∃ wi : TI, PI X tg e wi ∧ ∀ (env : Ev) (ds : List D) (env' : Ev), f env = some (ds, env') → ∀ (G : Hp) (σ : St) (H : Hp) (L Lx : List Cell), RelS X.K G env σ L → Sep T G H (L ++ Lx) →
  ∀ R : It → Hp → Prop, (∀ (G' H' : Hp) (L' : List Cell) (J : It), Same G G' → RelS X.K G' env' σ L' → Sep T G' H' (L' ++ Lx) → WalkD X.K T J ds G' → R J H') → wi σ H R
/-- a list is walked -/
theorem walk_lst {K : PySem.W.Frag} {G0 : Hp} {p : Addr} {vs : List V} {ds : List D} (hp : SqL K G0 p vs) (hs : DqAll K G0 vs ds) : WalkD K T (Itl K p) ds G0 := fun i G H L m S => by
  have h1 : SqL K H p vs := (m.trans S.same).seq hp
  refine ⟨fun d hd => ?_, fun hl => ⟨vs, h1, by rw [dps_len hs, hl]; exact Nat.le_refl _⟩⟩
  obtain ⟨v, e1, e2⟩ := dps_get hs hd
  refine ⟨⟨vs, v, h1, e1⟩, fun x H' hy => ?_⟩
  obtain ⟨rfl, q⟩ := hy
  have e3 := q vs h1
  rw [e1] at e3
  cases e3
  exact ⟨G, .refl _, dp_mono m _ _ e2, S⟩
theorem walk_tupl {K : PySem.W.Frag} {G0 : Hp} {p : Addr} {vs : List V} {ds : List D} (hp : G0 p = some (.tup vs)) (hs : DqAll K G0 vs ds) : WalkD K T (Itt K p) ds G0 := fun i G H L m S => by
  have h1 : SqT K H p vs := same_tup (m.trans S.same) hp
  refine ⟨fun d hd => ?_, fun hl => ⟨vs, h1, by rw [dps_len hs, hl]; exact Nat.le_refl _⟩⟩
  obtain ⟨v, e1, e2⟩ := dps_get hs hd
  refine ⟨⟨vs, v, h1, e1⟩, fun x H' hy => ?_⟩
  obtain ⟨rfl, q⟩ := hy
  have e3 := q vs h1
  rw [e1] at e3
  cases e3
  exact ⟨G, .refl _, dp_mono m _ _ e2, S⟩
theorem rangeD_get {lo hi : Int} {i : Nat} {d : D} (h : (rangeD lo hi)[i]? = some d) : i < (hi - lo).toNat ∧ d = .int (lo + (i : Nat)) := by
  unfold rangeD at h
  rw [List.getElem?_map] at h
  by_cases hi' : i < (hi - lo).toNat
  · rw [List.getElem?_range hi'] at h
    cases h
    exact ⟨hi', rfl⟩
  · rw [List.getElem?_eq_none (by simpa using hi')] at h
    cases h
theorem rangeD_len {lo hi : Int} : (rangeD lo hi).length = (hi - lo).toNat := by simp [rangeD]
theorem walk_rng {K : PySem.W.Frag} {G0 : Hp} {lo hi : Int} : WalkD K T (Itr lo (hi - lo).toNat) (rangeD lo hi) G0 := fun i G H L m S => by
  refine ⟨fun d hd => ?_, fun hl => by rw [rangeD_len] at hl; show _ ≤ i; omega⟩
  obtain ⟨h1, rfl⟩ := rangeD_get hd
  refine ⟨h1, fun x H' hy => ?_⟩
  obtain ⟨rfl, rfl⟩ := hy
  exact ⟨G, .refl _, .int _, S⟩
theorem oLst_eq {o : O} {xs : List D} (h : oLst o = some xs) : o = .d (.list xs) ∨ o = .l xs := by
  unfold oLst at h
  split at h
  · cases h
    exact .inl rfl
  · cases h
    exact .inr rfl
  · cases h
theorem oTup_eq {o : O} {xs : List D} (h : oTup o = some xs) : o = .d (.tuple xs) := by
  unfold oTup at h
  split at h
  · cases h
    rfl
  · cases h
/-- for .. in a list (a new one is known from now on) -/
theorem iv_lst {tg : Expr} {fa : Ex} (ha : EV X T e fa) : IV X T tg e (iLst fa) := by
  obtain ⟨t, pa, h⟩ := ha
  refine ⟨_, pi_list pa, fun env ds env' hf G σ H L Lx hR hS R hR' => ?_⟩
  unfold iLst at hf
  obtain ⟨⟨o, env1⟩, e1, hf⟩ := bind_eq hf
  obtain ⟨xs, e2, hf⟩ := bind_eq hf
  cases hf
  refine h env o env1 e1 G σ H L Lx hR hS _ fun G1 v H1 L1 Lo s1 ot R1 S1 => ?_
  rcases oLst_eq (show oLst o = some ds from e2) with rfl | rfl
  · cases ot with
    | d ot =>
      cases ot with
      | lst hp hs => exact ⟨_, rfl, ⟨_, S1.same.seq hp⟩, hR' G1 H1 L1 _ s1 R1 (S1.sub .drop) (walk_lst hp hs)⟩
  · cases ot with
    | @l _ p vs hs =>
      obtain ⟨S2, m⟩ := Sep.freeze (show Sep T G1 H1 ((p, .lst vs) :: (L1 ++ Lx)) from S1)
      have hp : SqL X.K (upd G1 p (.lst vs)) p vs := .inl (.inl upd_same)
      exact ⟨_, rfl, ⟨_, S2.same.seq hp⟩, hR' _ H1 L1 _ (s1.trans m) (rel_mono m R1) S2 (walk_lst hp (dps_mono m _ _ hs))⟩
theorem iv_tup {tg : Expr} {fa : Ex} (ha : EV X T e fa) : IV X T tg e (Sh.iTup fa) := by
  obtain ⟨t, pa, h⟩ := ha
  refine ⟨_, pi_tup pa, fun env ds env' hf G σ H L Lx hR hS R hR' => ?_⟩
  unfold Sh.iTup at hf
  obtain ⟨⟨o, env1⟩, e1, hf⟩ := bind_eq hf
  obtain ⟨xs, e2, hf⟩ := bind_eq hf
  cases hf
  refine h env o env1 e1 G σ H L Lx hR hS _ fun G1 v H1 L1 Lo s1 ot R1 S1 => ?_
  have e3 := oTup_eq (show oTup o = some ds from e2)
  subst e3
  cases ot with
  | d ot =>
    cases ot with
    | tup hp hs => exact ⟨_, rfl, ⟨_, same_tup S1.same hp⟩, hR' G1 H1 L1 _ s1 R1 (S1.sub .drop) (walk_tupl hp hs)⟩
theorem iv_rng1 {tg : Expr} {p : Pos} {fa : Ex} (hm : X.mg "range" = none) (ha : EV X T a fa) (hg : Gl X "range" := by rfl) (hs : starEach [a] X.env = [(false, eval a X.env)] := by rfl) : IV X T tg (.Call (.Name "range" p) [a] [] pos) (iRange fa) := by
  obtain ⟨t, pa, h⟩ := ha
  refine ⟨_, pi_range1 hg hm (pa_cons pa pa_nil (by rw [hs]; rfl)) hs, fun env ds env' hf G σ H L Lx hR hS R hR' => ?_⟩
  unfold iRange at hf
  obtain ⟨⟨o, env1⟩, e1, hf⟩ := bind_eq hf
  obtain ⟨n, e2, hf⟩ := bind_eq hf
  split at hf
  · rename_i hn
    cases hf
    refine h env o env1 e1 G σ H L Lx hR hS _ fun G1 v H1 L1 Lo s1 ot R1 S1 => ?_
    obtain ⟨rfl, rfl, rfl⟩ := int_of ot e2
    refine ⟨n, rfl, by omega, by omega, ?_⟩
    have w := walk_rng (K := X.K) (T := T) (G0 := G1) (lo := 0) (hi := n)
    rw [Int.sub_zero] at w
    exact hR' G1 H1 L1 _ s1 R1 S1 w
  · cases hf
theorem iv_rng2 {tg : Expr} {p : Pos} {fa fb : Ex} (hm : X.mg "range" = none) (ha : EV X T a fa) (hb : EV X T b fb) (hg : Gl X "range" := by rfl) (hs : starEach [a, b] X.env = [(false, eval a X.env), (false, eval b X.env)] := by rfl) (hs2 : starEach [b] X.env = [(false, eval b X.env)] := by rfl) : IV X T tg (.Call (.Name "range" p) [a, b] [] pos) (iRange2 fa fb) := by
  obtain ⟨t, pa, h⟩ := ha
  obtain ⟨t2, pb, h2⟩ := hb
  refine ⟨_, pi_range2 hg hm (pa_cons pa (pa_cons pb pa_nil (by rw [hs2]; rfl)) (by rw [hs, hs2])) hs hs2, fun env ds env' hf G σ H L Lx hR hS R hR' => ?_⟩
  unfold iRange2 at hf
  obtain ⟨⟨o, env1⟩, e1, hf⟩ := bind_eq hf
  obtain ⟨⟨o2, env2⟩, e2, hf⟩ := bind_eq hf
  obtain ⟨m, e3, hf⟩ := bind_eq hf
  obtain ⟨n, e4, hf⟩ := bind_eq hf
  split at hf
  · rename_i hn
    cases hf
    refine h env o env1 e1 G σ H L Lx hR hS _ fun G1 v H1 L1 Lo s1 ot R1 S1 => ?_
    obtain ⟨rfl, rfl, rfl⟩ := int_of ot e3
    refine h2 env1 o2 env2 e2 G1 σ H1 L1 Lx R1 S1 _ fun G2 v2 H2 L2 Lo2 s2 ot2 R2 S2 => ?_
    obtain ⟨rfl, rfl, rfl⟩ := int_of ot2 e4
    exact ⟨m, n, rfl, ⟨by omega, by omega, by omega, by omega⟩, hR' G2 H2 L2 _ (s1.trans s2) R2 S2 walk_rng⟩
  · cases hf
end
end Sh

/-! Shift layer 6: targets and comprehensions. -/
namespace Sh
open PySem PySem.Spec PyProof.Rows L2
section
variable {X : Cx} {T : TabsT} {a b c e : Expr} {pos : Pos} {rest es : List Expr}
/-! ### targets -/
def GV (X : Cx) (T : TabsT) (tg : Expr) (ns : List Nat) (t : Tg) : Prop := ∃ g : TG, PG X tg g ∧ ∀ (x : D) (env env' : Ev), t x env = some env' → ∀ (G : Hp) (σ : St) (H : Hp) (L Lx : List Cell) (v : V), Dq X.K G v x → RelS X.K G env σ L → Sep T G H (L ++ Lx) →
  ∀ Q : St → Hp → Prop, (∀ (σ' : St) (L' : List Cell), (∀ j, j ∉ ns → σ'[j]? = σ[j]?) → σ'.length = σ.length → RelS X.K G env' σ' L' → Sep T G H (L' ++ Lx) → Q σ' H) → g v σ H Q
def GVs (X : Cx) (T : TabsT) (tgs : List Expr) (ns : List Nat) (ts : List Tg) : Prop := ∃ g : TGs, PGs X tgs g ∧ ∀ (xs : List D) (env env' : Ev), tAll ts xs env = some env' → ∀ (G : Hp) (σ : St) (H : Hp) (L Lx : List Cell) (vs : List V), DqAll X.K G vs xs → RelS X.K G env σ L → Sep T G H (L ++ Lx) →
  ∀ Q : St → Hp → Prop, (∀ (σ' : St) (L' : List Cell), (∀ j, j ∉ ns → σ'[j]? = σ[j]?) → σ'.length = σ.length → RelS X.K G env' σ' L' → Sep T G H (L' ++ Lx) → Q σ' H) → g vs σ H Q
theorem gv_name {x : Str} (i : Nat) (hN : X.N.Nodup) (hi : X.N[i]? = some x := by rfl) (hx : Loc X.env.scope x := by first | exact Or.inl rfl | exact Or.inr rfl) (hf : X.fn x = true ∨ X.env.scope.names.lookup x = some .local := by first | exact .inl rfl | exact .inr rfl) : GV X T (.Name x pos) [i] (tName i) := by
  refine ⟨gName i, pg_name hN hi hx hf, fun x env env' ht G σ H L Lx v hd hR hS Q hQ => ?_⟩
  cases ht
  obtain ⟨L', a, b⟩ := rel_put (j := i) hR (.d hd)
  exact hQ _ L' (fun j hj => by rw [List.getElem?_set_ne (fun z => hj (by simp [z]))]) (by simp) a (hS.sub (Sub.right (by simpa using b)))
theorem gvs_nil : GVs X T [] [] [] := by
  refine ⟨_, pgs_nil, fun xs env env' ht G σ H L Lx vs hd hR hS Q hQ => ?_⟩
  cases hd with
  | nil =>
    cases ht
    exact ⟨rfl, hQ σ L (fun _ _ => rfl) rfl hR hS⟩
  | cons _ _ => cases ht
theorem gvs_cons {tgs : List Expr} {ns ms : List Nat} {t : Tg} {ts : List Tg} (h : GV X T a ns t) (h2 : GVs X T tgs ms ts) (hs : (assignEach (a :: tgs) X.env).map (·.2) = assign a X.env :: (assignEach tgs X.env).map (·.2) := by rfl) : GVs X T (a :: tgs) (ns ++ ms) (t :: ts) := by
  obtain ⟨g, p, h⟩ := h
  obtain ⟨g2, p2, h2⟩ := h2
  refine ⟨_, pgs_cons p p2 hs, fun xs env env' ht G σ H L Lx vs hd hR hS Q hQ => ?_⟩
  cases hd with
  | nil => cases ht
  | @cons v vs d ds hd hds =>
    unfold tAll at ht
    obtain ⟨env1, e1, ht⟩ := bind_eq ht
    refine ⟨v, vs, rfl, ?_⟩
    refine h d env env1 e1 G σ H L Lx v hd hR hS _ fun σ1 L1 k1 l1 R1 S1 => ?_
    refine h2 ds env1 env' ht G σ1 H L1 Lx vs hds R1 S1 _ fun σ2 L2 k2 l2 R2 S2 => ?_
    exact hQ σ2 L2 (fun j hj => by rw [k2 j (fun z => hj (List.mem_append_right _ z)), k1 j (fun z => hj (List.mem_append_left _ z))]) (l2.trans l1) R2 S2
theorem gv_tup {tgs : List Expr} {k : Nat} {ns : List Nat} {ts : List Tg} {n : Nat} (hc : X.calm = true) (h : GVs X T tgs ns ts) (hl : ts.length = n := by rfl) (hn : ∀ (g : TGs), PGs X tgs g → PG X (.Tuple tgs k pos) (gTup X.K n g)) : GV X T (.Tuple tgs k pos) ns (tTupl ts) := by
  obtain ⟨g, p, h⟩ := h
  refine ⟨_, hn g p, fun x env env' ht G σ H L Lx v hd hR hS Q hQ => ?_⟩
  unfold tTupl at ht
  split at ht
  · rename_i xs
    cases hd with
    | @tup a vs _ h1 h2 =>
      have hlen : ∀ (ts : List Tg) (xs : List D) (env env' : Ev), tAll ts xs env = some env' → xs.length = ts.length := by
        intro ts
        induction ts with
        | nil =>
          intro xs env env' h
          cases xs with
          | nil => rfl
          | cons _ _ => cases h
        | cons t ts ih =>
          intro xs env env' h
          cases xs with
          | nil => cases h
          | cons x xs =>
            unfold tAll at h
            obtain ⟨e1, _, h⟩ := bind_eq h
            simp [ih xs e1 env' h]
      exact ⟨a, vs, rfl, same_tup hS.same h1, by rw [dps_len h2, hlen ts xs env env' ht, hl], h xs env env' ht G σ H L Lx vs h2 hR hS Q hQ⟩
  · cases ht

/-! ### slots wiped -/
theorem wipe_get (σ : St) (i : Nat) : ∀ vs : List Nat, (wipe σ vs)[i]? = if i ∈ vs then σ[i]?.map (fun _ => none) else σ[i]?
  | [] => by simp [wipe]
  | v :: vs => by
    unfold wipe
    rw [List.getElem?_set]
    have ih := wipe_get σ i vs
    by_cases hv : v = i
    · subst hv
      simp only [if_true, List.mem_cons, true_or, wipe_length]
      by_cases hl : v < σ.length
      · simp [hl]
      · simp [hl]
    · rw [if_neg hv, ih]
      have hi : ¬ i = v := fun z => hv z.symm
      simp only [List.mem_cons, hi, false_or]
theorem wipe_of {σ σ' : St} {vs : List Nat} (hl : σ'.length = σ.length) (h : ∀ j, j ∉ vs → σ'[j]? = σ[j]?) : wipe σ' vs = wipe σ vs := by
  apply List.ext_getElem?
  intro i
  rw [wipe_get, wipe_get]
  by_cases hi : i ∈ vs
  · rw [if_pos hi, if_pos hi]
    by_cases hb : i < σ.length
    · rw [List.getElem?_eq_getElem (by omega), List.getElem?_eq_getElem hb]
      rfl
    · rw [List.getElem?_eq_none (by omega), List.getElem?_eq_none (by omega)]
  · rw [if_neg hi, if_neg hi, h i hi]
theorem wipe_wipe {σ : St} {vs : List Nat} : wipe (wipe σ vs) vs = wipe σ vs := wipe_of (wipe_length σ vs) fun j hj => by rw [wipe_get, if_neg hj]
section
variable {K : PySem.W.Frag} {G : Hp} {L : List Cell} {σ : St}
theorem rel_wipe {env : Ev} (h : RelS K G env σ L) : ∀ vs : List Nat, ∃ L', RelS K G (wipeE env vs) (wipe σ vs) L' ∧ Sub L' L
  | [] => ⟨L, h, .refl⟩
  | v :: vs => by
    obtain ⟨L1, a, b⟩ := rel_wipe h vs
    obtain ⟨L2, a2, b2⟩ := rel_none a v none
    exact ⟨L2, a2, Sub.trans b b2⟩
theorem set_self {α : Type} {l : List α} {i : Nat} {x : α} (h : l[i]? = some x) : l.set i x = l := by
  apply List.ext_getElem?
  intro j
  rw [List.getElem?_set]
  split
  · rename_i e
    subst e
    split
    · exact h.symm
    · rename_i hl
      rw [List.getElem?_eq_none (by omega)] at h
      cases h
  · rfl
theorem set_none' {α : Type} {l : List α} {i : Nat} {x : α} (h : l[i]? = none) : l.set i x = l := by
  apply List.ext_getElem?
  intro j
  rw [List.getElem?_set]
  split
  · rename_i e
    subst e
    split
    · rename_i hl
      rw [List.getElem?_eq_getElem hl] at h
      cases h
    · exact h.symm
  · rfl
theorem rel_back {old : Ev} : ∀ (vs : List Nat) {e : Ev} {L : List Cell}, vs.Nodup → plainE old vs = true → (∀ v x, slot old v = some (.d x) → ∃ u, σ[v]? = some (some u) ∧ Dq K G u x) → RelS K G e (wipe σ vs) L → ∃ L', RelS K G (backE old e vs) σ L' ∧ Sub L' L
  | [], e, L, _, _, _, h => ⟨L, h, .refl⟩
  | v :: vs, e, L, nd, hp, hd, h => by
    obtain ⟨n1, n2⟩ := List.nodup_cons.mp nd
    unfold plainE at hp
    simp only [Bool.and_eq_true] at hp
    have hw : (wipe σ vs)[v]? = σ[v]? := by rw [wipe_get, if_neg n1]
    have h' : RelS K G e ((wipe σ vs).set v none) L := h
    unfold backE
    have key : ∃ L', RelS K G (e.set v (slot old v)) (wipe σ vs) L' ∧ Sub L' L := by
      cases hs : slot old v with
      | none =>
        cases hq : (wipe σ vs)[v]? with
        | none =>
          rw [set_none' hq] at h'
          obtain ⟨L', a, b⟩ := rel_forget h' v
          exact ⟨L', a, b⟩
        | some q =>
          obtain ⟨L', a, b⟩ := rel_none h' v q
          rw [List.set_set, set_self hq] at a
          exact ⟨L', a, b⟩
      | some o =>
        rw [hs] at hp
        cases o with
        | d x =>
          obtain ⟨u, h1, h2⟩ := hd v x hs
          obtain ⟨L', a, b⟩ := rel_put (j := v) h' (.d h2)
          rw [List.set_set, set_self (hw.trans h1)] at a
          exact ⟨L', a, by simpa using b⟩
        | l xs => simp at hp
        | m t kvs => simp at hp
        | g rows => simp at hp
        | k t kvs => simp at hp
    obtain ⟨L1, a, b⟩ := key
    obtain ⟨L2, a2, b2⟩ := rel_back vs n2 hp.2 hd a
    exact ⟨L2, a2, Sub.trans b b2⟩
end

/-! ### comprehensions -/
abbrev BlkX (X : Cx) (scope : Scope) (s : Shared) (H : Hp) (C : Addr) (cl : List (Str × Addr)) (fp : List Addr) : Cx := X.blk s H scope (compEnvC scope cl C X.env) fp
/-- one reading for all blocks -/
theorem blk_e {scope : Scope} {elt : Expr} {fe : Ex} (he : ∀ (s : Shared) (H : Hp) (C : Addr) (cl : List (Str × Addr)) (fp : List Addr), EV (BlkX X scope s H C cl fp) T elt fe) :
    ∃ te : TE, (∀ (s : Shared) (H : Hp) (C : Addr) (cl : List (Str × Addr)) (fp : List Addr), PE (BlkX X scope s H C cl fp) elt te) ∧ ∀ (env : Ev) (o : O) (env' : Ev), fe env = some (o, env') → ∀ (G : Hp) (σ : St) (H : Hp) (L Lx : List Cell), RelS X.K G env σ L → Sep T G H (L ++ Lx) →
      ∀ Q : VK, PostE X T Lx G σ o env' Q → te σ H Q := by
  refine ⟨fun σ H Q => ∀ (s0 : Shared) (H0 : Hp) (C : Addr) (cl : List (Str × Addr)) (fp : List Addr) (pins : List (Addr × Obj)) (s : Shared), Inv (BlkX X scope s0 H0 C cl fp) pins σ H s →
    wpAny (model X.prog X.w) X.A (eval elt (BlkX X scope s0 H0 C cl fp).env) (L2.EP (BlkX X scope s0 H0 C cl fp) pins σ Q) (BlkX X scope s0 H0 C cl fp).xe s, fun s0 H0 C cl fp => ⟨fun pins s σ H Q I h => h s0 H0 C cl fp pins s I⟩, fun env o env' hf G σ H L Lx hR hS Q hQ s0 H0 C cl fp pins s I => ?_⟩
  obtain ⟨t, p, h⟩ := he s0 H0 C cl fp
  exact p.run pins s σ H Q I (h env o env' hf G σ H L Lx hR hS Q hQ)
theorem blk_b {scope : Scope} {elt : Expr} {fe : ExB} (he : ∀ (s : Shared) (H : Hp) (C : Addr) (cl : List (Str × Addr)) (fp : List Addr), BV (BlkX X scope s H C cl fp) T elt fe) :
    ∃ te : TT, (∀ (s : Shared) (H : Hp) (C : Addr) (cl : List (Str × Addr)) (fp : List Addr), PT (BlkX X scope s H C cl fp) elt te) ∧ BImp X T fe te := by
  refine ⟨fun σ H Q => ∀ (s0 : Shared) (H0 : Hp) (C : Addr) (cl : List (Str × Addr)) (fp : List Addr) (pins : List (Addr × Obj)) (s : Shared), Inv (BlkX X scope s0 H0 C cl fp) pins σ H s →
    wpAny (model X.prog X.w) X.A (isTrue elt (BlkX X scope s0 H0 C cl fp).env (eval elt (BlkX X scope s0 H0 C cl fp).env)) (TP (BlkX X scope s0 H0 C cl fp) pins σ Q) (BlkX X scope s0 H0 C cl fp).xe s, fun s0 H0 C cl fp => ⟨fun pins s σ H Q I h => h s0 H0 C cl fp pins s I⟩, fun env o env' hf G σ H L Lx hR hS Q hQ s0 H0 C cl fp pins s I => ?_⟩
  obtain ⟨t, p, h⟩ := he s0 H0 C cl fp
  exact p.run pins s σ H Q I (h env o env' hf G σ H L Lx hR hS Q hQ)
theorem blk_g {scope : Scope} {tg : Expr} {ns : List Nat} {tt : Tg} (he : ∀ (s : Shared) (H : Hp) (C : Addr) (cl : List (Str × Addr)) (fp : List Addr), GV (BlkX X scope s H C cl fp) T tg ns tt) :
    ∃ g : TG, (∀ (s : Shared) (H : Hp) (C : Addr) (cl : List (Str × Addr)) (fp : List Addr), PG (BlkX X scope s H C cl fp) tg g) ∧ ∀ (x : D) (env env' : Ev), tt x env = some env' → ∀ (G : Hp) (σ : St) (H : Hp) (L Lx : List Cell) (v : V), Dq X.K G v x → RelS X.K G env σ L → Sep T G H (L ++ Lx) →
      ∀ Q : St → Hp → Prop, (∀ (σ' : St) (L' : List Cell), (∀ j, j ∉ ns → σ'[j]? = σ[j]?) → σ'.length = σ.length → RelS X.K G env' σ' L' → Sep T G H (L' ++ Lx) → Q σ' H) → g v σ H Q := by
  refine ⟨fun v σ H Q => ∀ (s0 : Shared) (H0 : Hp) (C : Addr) (cl : List (Str × Addr)) (fp : List Addr) (pins : List (Addr × Obj)) (s : Shared) (u : Value), Inv (BlkX X scope s0 H0 C cl fp) pins σ H s → RelV v u →
    wpAny (model X.prog X.w) X.A (assign tg (BlkX X scope s0 H0 C cl fp).env u) (fun _ s' => ∃ σ' H', Inv (BlkX X scope s0 H0 C cl fp) pins σ' H' s' ∧ Q σ' H') (BlkX X scope s0 H0 C cl fp).xe s, fun s0 H0 C cl fp => ⟨fun pins s σ H v u Q I r h => h s0 H0 C cl fp pins s u I r⟩, fun x env env' hf G σ H L Lx v hd hR hS Q hQ s0 H0 C cl fp pins s u I r => ?_⟩
  obtain ⟨t, p, h⟩ := he s0 H0 C cl fp
  exact p.run pins s σ H v u Q I r (h x env env' hf G σ H L Lx v hd hR hS Q hQ)
theorem wipeE_none : ∀ {vs : List Nat} {e : Ev} {j : Nat}, j ∈ vs → slot (wipeE e vs) j = none
  | v :: vs, e, j, h => by
    unfold wipeE
    by_cases hv : v = j
    · subst hv
      exact slot_set_same
    · rw [slot_set_ne hv]
      exact wipeE_none (by
        rcases List.mem_cons.mp h with z | z
        · exact absurd z.symm hv
        · exact z)
theorem comp_core {fi : ExI} {ns own : List Nat} {t : Tg} {fc : ExB} {fe : Ex} {wi : TI} {g : TG} {tt : TT} {te : TE} (hns : ∀ j ∈ ns, j ∈ own) (hnd : own.Nodup)
    (hi : ∀ (env : Ev) (ds : List D) (env' : Ev), fi env = some (ds, env') → ∀ (G : Hp) (σ : St) (H : Hp) (L Lx : List Cell), RelS X.K G env σ L → Sep T G H (L ++ Lx) →
      ∀ R : It → Hp → Prop, (∀ (G' H' : Hp) (L' : List Cell) (J : It), Same G G' → RelS X.K G' env' σ L' → Sep T G' H' (L' ++ Lx) → WalkD X.K T J ds G' → R J H') → wi σ H R)
    (hg : ∀ (x : D) (env env' : Ev), t x env = some env' → ∀ (G : Hp) (σ : St) (H : Hp) (L Lx : List Cell) (v : V), Dq X.K G v x → RelS X.K G env σ L → Sep T G H (L ++ Lx) →
      ∀ Q : St → Hp → Prop, (∀ (σ' : St) (L' : List Cell), (∀ j, j ∉ ns → σ'[j]? = σ[j]?) → σ'.length = σ.length → RelS X.K G env' σ' L' → Sep T G H (L' ++ Lx) → Q σ' H) → g v σ H Q)
    (ht : BImp X T fc tt)
    (he : ∀ (env : Ev) (o : O) (env' : Ev), fe env = some (o, env') → ∀ (G : Hp) (σ : St) (H : Hp) (L Lx : List Cell), RelS X.K G env σ L → Sep T G H (L ++ Lx) → ∀ Q : VK, PostE X T Lx G σ o env' Q → te σ H Q)
    {env env' : Ev} {o : O} (hf : eComp own fi t fc fe env = some (o, env')) {G : Hp} {σ : St} {H : Hp} {L Lx : List Cell} (hR : RelS X.K G env σ L) (hS : Sep T G H (L ++ Lx)) {Q : VK} (hQ : PostE X T Lx G σ o env' Q) : tLc wi g tt te own σ H Q := by
  unfold eComp at hf
  obtain ⟨⟨ds, env1⟩, e1, hf⟩ := bind_eq hf
  simp only at hf
  split at hf
  · rename_i hlp
    obtain ⟨⟨zs, eF⟩, e2, hf⟩ := bind_eq hf
    cases hf
    refine hi env ds env1 e1 G σ H L Lx hR hS _ fun G1 H1 L1 J s1 R1 S1 wk => ?_
    intro Da hDa
    obtain ⟨Lw, Rw, sw⟩ := rel_wipe R1 own
    refine ⟨fun i m H2 => ∃ G2 L2 acc ys e rs, m + i = ds.length ∧ Same G1 G2 ∧ RelS X.K G2 e (wipe σ own) L2 ∧ Sep T G2 H2 ((Da, .lst acc) :: (L2 ++ Lx)) ∧ DqAll X.K G2 acc ys ∧ compLoop own t fc fe (ds.drop i) e = some (rs, eF) ∧ ys ++ rs = zs ∧ acc.length ≤ i, ⟨ds.length, ?_⟩, fun i m H2 hW => ?_⟩
    · exact ⟨G1, Lw, [], [], wipeE env1 own, zs, by simp, .refl _, Rw, (S1.sub sw.right).owned hDa, .nil, by simpa using e2, rfl, Nat.zero_le _⟩
    · obtain ⟨G2, L2, acc, ys, e, rs, hm, s2, R2, S2, da, cl, hz, hal⟩ := hW
      obtain ⟨w1, w2⟩ := wk i G2 H2 _ s2 S2
      by_cases hi' : i < ds.length
      · refine .inr ?_
        have hx : ds[i]? = some ds[i] := List.getElem?_eq_getElem hi'
        rw [List.drop_eq_getElem_cons hi'] at cl
        obtain ⟨go, yl⟩ := w1 _ hx
        unfold compLoop at cl
        obtain ⟨e3, q1, cl⟩ := bind_eq cl
        obtain ⟨⟨k, e4⟩, q2, cl⟩ := bind_eq cl
        refine ⟨go, fun H' => ∃ G' L' acc' ys' e' rs', m - 1 + (i + 1) = ds.length ∧ Same G1 G' ∧ RelS X.K G' e' (wipe σ own) L' ∧ Sep T G' H' ((Da, .lst acc') :: (L' ++ Lx)) ∧ DqAll X.K G' acc' ys' ∧ compLoop own t fc fe (ds.drop (i + 1)) e' = some (rs', eF) ∧ ys' ++ rs' = zs ∧ acc'.length ≤ i + 1, fun H' hN => ⟨m - 1, by omega, hN⟩, fun x H' hy => ?_⟩
        obtain ⟨G3, s3, dx, S3⟩ := yl x H' hy
        have S3' : Sep T G3 H' (L2 ++ ((Da, .lst acc) :: Lx)) := S3.sub (.perm (List.perm_middle.symm))
        refine hg _ e e3 q1 G3 (wipe σ own) H' L2 _ x dx (rel_mono s3 R2) S3' _ fun σ4 L4 k4 l4 R4 S4 => ?_
        have hwp : wipe σ4 own = wipe σ own := (wipe_of l4 fun j hj => k4 j fun z => hj (hns j z)).trans wipe_wipe
        refine ⟨hwp, ?_⟩
        refine ht e3 k e4 q2 G3 σ4 H' L4 _ R4 S4 _ fun G5 H5 L5 s5 R5 S5 => ?_
        have back : ∀ {G6 H6 : Hp} {L6 : List Cell} {e6 : Ev} {acc6 : List V}, RelS X.K G6 e6 σ4 L6 → Sep T G6 H6 (L6 ++ ((Da, .lst acc6) :: Lx)) → ∃ L7, RelS X.K G6 (wipeE e6 own) (wipe σ own) L7 ∧ Sep T G6 H6 ((Da, .lst acc6) :: (L7 ++ Lx)) := fun {G6 H6 L6 e6 acc6} r6 S6 => by
          obtain ⟨L7, a7, b7⟩ := rel_wipe r6 own
          rw [hwp] at a7
          exact ⟨L7, a7, (S6.sub b7.right).sub (.perm List.perm_middle)⟩
        cases k with
        | false =>
          simp only [Bool.false_eq_true, if_false] at cl ⊢
          obtain ⟨L7, a7, b7⟩ := back R5 S5
          exact ⟨G5, L7, acc, ys, wipeE e4 own, rs, by omega, (s2.trans s3).trans s5, a7, b7, dps_mono (s3.trans s5) _ _ da, cl, hz, by omega⟩
        | true =>
          simp only [if_true] at cl ⊢
          obtain ⟨⟨o6, e6⟩, q3, cl⟩ := bind_eq cl
          obtain ⟨y, q4, cl⟩ := bind_eq cl
          obtain ⟨⟨rs', eF'⟩, q5, cl⟩ := bind_eq cl
          cases cl
          refine he e4 o6 e6 q3 G5 σ4 H5 L5 _ R5 S5 _ fun G6 v6 H6 L6 Lo6 s6 ot6 R6 S6 => ?_
          obtain ⟨G7, m7, d7, S7⟩ := frz_of ot6 q4 S6
          have hat : H6 Da = some (.lst acc) := (S7.at_ _ (List.mem_append_right _ List.mem_cons_self)).1
          refine ⟨acc, hat, Nat.lt_of_le_of_lt (Nat.le_trans hal (by omega)) line_ge, ?_⟩
          have S8 : Sep T G7 (upd H6 Da (.lst (acc ++ [v6]))) ((Da, .lst (acc ++ [v6])) :: (L6 ++ Lx)) := (S7.sub (.perm List.perm_middle)).change
          obtain ⟨L9, a9, b9⟩ := back (rel_mono m7 R6) (S8.sub (.perm List.perm_middle.symm))
          exact ⟨G7, L9, acc ++ [v6], ys ++ [y], wipeE e6 own, rs', by omega, (((s2.trans s3).trans s5).trans s6).trans m7, a9, b9, dps_app (dps_mono (((s3.trans s5).trans s6).trans m7) _ _ da) (.cons d7 .nil), q5, by rw [List.append_assoc]; exact hz, by simp; omega⟩
      · refine .inl ⟨w2 (by omega), ?_⟩
        rw [List.drop_eq_nil_of_le (by omega)] at cl
        cases cl
        rw [List.append_nil] at hz
        subst hz
        obtain ⟨L9, a9, b9⟩ := rel_back own hnd hlp.2 (fun v x hv => by
          obtain ⟨u, c, h1, h2, _⟩ := rel_get R1 hv
          cases h2 with
          | d h2 => exact ⟨u, h1, dp_mono s2 _ _ h2⟩) R2
        exact hQ G2 (.ref Da) H2 L9 [(Da, .lst acc)] (s1.trans s2) (.l da) a9 (S2.sub ((b9.right).left (Lx := [(Da, .lst acc)])))
  · cases hf
/-- [elt for tg in iter] -/
theorem ev_comp {elt tg iter : Expr} {scope : Scope} {own : List (Str × Nat)} {fi : ExI} {ns : List Nat} {t : Tg} {fe : Ex} (hc : X.calm = true) (hN : X.N.Nodup) (ok : BlkOk X.N X.env.scope scope own) (hi : IV X T tg iter fi)
    (hg : ∀ (s : Shared) (H : Hp) (C : Addr) (cl : List (Str × Addr)) (fp : List Addr), GV (BlkX X scope s H C cl fp) T tg ns t)
    (he : ∀ (s : Shared) (H : Hp) (C : Addr) (cl : List (Str × Addr)) (fp : List Addr), EV (BlkX X scope s H C cl fp) T elt fe)
    (hns : ∀ j ∈ ns, j ∈ own.map (·.2) := by decide) (hnd : (own.map (·.2)).Nodup := by decide) (hs : ∀ x, foldedSetIterable iter X.env x = pure x := by intro _; rfl) : EV X T (.ListComp elt [⟨tg, iter, [], 0⟩] scope pos) (eComp (own.map (·.2)) fi t bYes fe) := by
  obtain ⟨wi, pi, hi⟩ := hi
  obtain ⟨g, pg, hg⟩ := blk_g hg
  obtain ⟨te, pe, he⟩ := blk_e he
  refine ⟨_, pe_lc hc hN pi ok pg (fun s H C cl fp => pts_nil) pe hs, fun env o env' hf G σ H L Lx hR hS Q hQ => ?_⟩
  exact comp_core hns hnd hi hg (fun env k env' h G σ H L Lx hR hS Q hQ => by
    cases h
    exact hQ G H L (.refl _) hR hS) he hf hR hS hQ
/-- [elt for tg in iter if c] -/
theorem ev_compIf {elt tg iter : Expr} {scope : Scope} {own : List (Str × Nat)} {fi : ExI} {ns : List Nat} {t : Tg} {fc : ExB} {fe : Ex} (hc : X.calm = true) (hN : X.N.Nodup) (ok : BlkOk X.N X.env.scope scope own) (hi : IV X T tg iter fi)
    (hg : ∀ (s : Shared) (H : Hp) (C : Addr) (cl : List (Str × Addr)) (fp : List Addr), GV (BlkX X scope s H C cl fp) T tg ns t)
    (ht : ∀ (s : Shared) (H : Hp) (C : Addr) (cl : List (Str × Addr)) (fp : List Addr), BV (BlkX X scope s H C cl fp) T c fc)
    (he : ∀ (s : Shared) (H : Hp) (C : Addr) (cl : List (Str × Addr)) (fp : List Addr), EV (BlkX X scope s H C cl fp) T elt fe)
    (hns : ∀ j ∈ ns, j ∈ own.map (·.2) := by decide) (hnd : (own.map (·.2)).Nodup := by decide) (hs : ∀ x, foldedSetIterable iter X.env x = pure x := by intro _; rfl) : EV X T (.ListComp elt [⟨tg, iter, [c], 0⟩] scope pos) (eComp (own.map (·.2)) fi t fc fe) := by
  obtain ⟨wi, pi, hi⟩ := hi
  obtain ⟨g, pg, hg⟩ := blk_g hg
  obtain ⟨tt, pt, ht⟩ := blk_b ht
  obtain ⟨te, pe, he⟩ := blk_e he
  refine ⟨_, pe_lc hc hN pi ok pg (fun s H C cl fp => pts_one (pt s H C cl fp)) pe hs, fun env o env' hf G σ H L Lx hR hS Q hQ => ?_⟩
  exact comp_core hns hnd hi hg ht he hf hR hS hQ
end
end Sh

/-! Shift layer 7: statements and defs. -/
namespace Sh
open PySem PySem.Spec PyProof.Rows L2
/-- an exception in the heap -/
def ExnR (K : PySem.W.Frag) (mg : Str → Option Value) (G H : Hp) (x : Xn) (cls : Value) (d : Option Addr) : Prop := mg x.cls = some cls ∧ match x.fld with
  | none => d = none
  | some (f, y) => ∃ dx w, d = some dx ∧ G dx = some (.xd [(f, w)]) ∧ Dq K G w y
/-- all that X takes -/
def WOf (X : Cx) : WX := fun cls d σ H => ∃ W : WX, Takes X W ∧ W cls d σ H
theorem takes_wof {X : Cx} : Takes X (WOf X) := fun u s' ⟨a, B, sI, pins, σ, H, cls, d, e, I, nb, up, sky, na, os, ag, W, tk, w⟩ => tk u s' ⟨a, B, sI, pins, σ, H, cls, d, e, I, nb, up, sky, na, os, ag, w⟩
/-- what is wanted behind a statement -/
def PostS (X : Cx) (T : TabsT) (lk : Nat → Bool) (Lx : List Cell) (G : Hp) (σ : St) (D : Ends) : Out → Prop
  | .nx e => ∀ (G' : Hp) (σ' : St) (H' : Hp) (L' : List Cell), Same G G' → (∀ i, lk i = true → σ'[i]? = σ[i]?) → RelS X.K G' e σ' L' → Sep T G' H' (L' ++ Lx) → D.nx σ' H'
  | .bk e => ∀ (G' : Hp) (σ' : St) (H' : Hp) (L' : List Cell), Same G G' → (∀ i, lk i = true → σ'[i]? = σ[i]?) → RelS X.K G' e σ' L' → Sep T G' H' (L' ++ Lx) → D.bk σ' H'
  | .rt o e => ∀ (G' : Hp) (v : V) (σ' : St) (H' : Hp) (L' Lo : List Cell), Same G G' → (∀ i, lk i = true → σ'[i]? = σ[i]?) → OT X.K G' o v Lo → RelS X.K G' e σ' L' → Sep T G' H' (Lo ++ (L' ++ Lx)) → D.rt v H'
  | .ex x e => ∀ (G' : Hp) (σ' : St) (H' : Hp) (L' : List Cell) (cls : Value) (d : Option Addr), Same G G' → (∀ i, lk i = true → σ'[i]? = σ[i]?) → RelS X.K G' e σ' L' → Sep T G' H' (L' ++ Lx) → ExnR X.K X.mg G' H' x cls d → WOf X cls d σ' H'
def SImp (X : Cx) (T : TabsT) (lk : Nat → Bool) (f : Sx) (t : TS) : Prop := ∀ (env : Ev) (r : Out), f env = some r → ∀ (G : Hp) (σ : St) (H : Hp) (L Lx : List Cell), RelS X.K G env σ L → Sep T G H (L ++ Lx) → ∀ D : Ends, PostS X T lk Lx G σ D r → t D σ H
def SV (X : Cx) (T : TabsT) (lk : Nat → Bool) (st : Stmt) (f : Sx) : Prop := ∃ t : TS, PS X st t ∧ SImp X T lk f t
def SVs (X : Cx) (T : TabsT) (lk : Nat → Bool) (st : List Stmt) (f : Sx) : Prop := ∃ t : TS, PSs X st t ∧ SImp X T lk f t
theorem PostS.from {X : Cx} {T : TabsT} {lk : Nat → Bool} {Lx : List Cell} {G G1 : Hp} {σ σ1 : St} {D : Ends} {r : Out} (h : PostS X T lk Lx G σ D r) (m : Same G G1) (k : ∀ i, lk i = true → σ1[i]? = σ[i]?) : PostS X T lk Lx G1 σ1 D r := by
  cases r with
  | nx e => exact fun G' σ' H' L' s1 k1 R S => h G' σ' H' L' (m.trans s1) (fun i hi => (k1 i hi).trans (k i hi)) R S
  | bk e => exact fun G' σ' H' L' s1 k1 R S => h G' σ' H' L' (m.trans s1) (fun i hi => (k1 i hi).trans (k i hi)) R S
  | rt o e => exact fun G' v σ' H' L' Lo s1 k1 ot R S => h G' v σ' H' L' Lo (m.trans s1) (fun i hi => (k1 i hi).trans (k i hi)) ot R S
  | ex x e => exact fun G' σ' H' L' cls d s1 k1 R S q => h G' σ' H' L' cls d (m.trans s1) (fun i hi => (k1 i hi).trans (k i hi)) R S q
section
variable {X : Cx} {T : TabsT} {lk : Nat → Bool} {a b c e : Expr} {pos : Pos} {st : Stmt} {rest sts sts2 : List Stmt}
theorem svs_nil : SVs X T lk [] sNil := ⟨_, pss_nil, fun env r hf G σ H L Lx hR hS D hD => by
  cases hf
  exact hD G σ H L (.refl _) (fun _ _ => rfl) hR hS⟩
theorem seq_imp {f1 f2 : Sx} {t u : TS} (h1 : SImp X T lk f1 t) (h2 : SImp X T lk f2 u) : SImp X T lk (sSeq f1 f2) (tSeq t u) := by
  intro env r hf G σ H L Lx hR hS D hD
  unfold sSeq at hf
  obtain ⟨o, e1, hf⟩ := bind_eq hf
  refine h1 env o e1 G σ H L Lx hR hS _ ?_
  cases o with
  | nx env1 => exact fun G1 σ1 H1 L1 s1 k1 R1 S1 => h2 env1 r hf G1 σ1 H1 L1 Lx R1 S1 D (hD.from s1 k1)
  | bk env1 =>
    cases hf
    exact hD
  | rt o env1 =>
    cases hf
    exact hD
  | ex x env1 =>
    cases hf
    exact hD
theorem svs_cons {f1 f2 : Sx} (h1 : SV X T lk st f1) (h2 : SVs X T lk rest f2) : SVs X T lk (st :: rest) (sSeq f1 f2) := by
  obtain ⟨t, p, h1⟩ := h1
  obtain ⟨u, q, h2⟩ := h2
  exact ⟨_, pss_cons p q, seq_imp h1 h2⟩
theorem svs_one {f1 : Sx} (h1 : SV X T lk st f1) : SVs X T lk [st] f1 := by
  obtain ⟨t, p, h1⟩ := h1
  exact ⟨_, pss_one p, h1⟩
theorem oOwn_eq {o : O} {xs : List D} (h : oOwn o = some xs) : o = .l xs := by
  unfold oOwn at h
  split at h
  · cases h
    rfl
  · cases h
theorem lk_set {lk : Nat → Bool} {σ : St} {i : Nat} {x : Option V} (h : lk i = false) : ∀ j, lk j = true → (σ.set i x)[j]? = σ[j]? := fun j hj => by
  rw [List.getElem?_set_ne]
  rintro rfl
  rw [h] at hj
  cases hj
/-- x = e -/
theorem sv_set {x : Str} {p : Pos} {f : Ex} (i : Nat) (hN : X.N.Nodup) (he : EV X T e f) (hi : X.N[i]? = some x := by rfl) (hl : lk i = false := by rfl) (hx : Loc X.env.scope x := by first | exact Or.inl rfl | exact Or.inr rfl)
    (hs : swapsWith e (some (.Name x p)) pos.line X.env = pure false := by rfl) (hf : X.fn x = true ∨ X.env.scope.names.lookup x = some .local := by first | exact .inl rfl | exact .inr rfl) : SV X T lk (.Assign [.Name x p] e pos) (sSet i f) := by
  obtain ⟨t, pe, h⟩ := he
  refine ⟨_, ps_set hN hi hx pe hs hf, fun env r hf G σ H L Lx hR hS D hD => ?_⟩
  unfold sSet at hf
  obtain ⟨⟨o, env1⟩, e1, hf⟩ := bind_eq hf
  cases hf
  refine h env o env1 e1 G σ H L Lx hR hS _ fun G1 v H1 L1 Lo s1 ot R1 S1 => ?_
  obtain ⟨L', q1, q2⟩ := rel_put (j := i) R1 ot
  exact hD G1 (σ.set i (some v)) H1 L' s1 (lk_set hl) q1 (S1.sub (by rw [← List.append_assoc]; exact q2.right))
theorem sv_setF {x : Str} {p : Pos} {f : Ex} (i : Nat) (hN : X.N.Nodup) (he : EV X T e f) (hi : X.N[i]? = some x := by rfl) (hl : lk i = false := by rfl) (hx : Loc X.env.scope x := by first | exact Or.inl rfl | exact Or.inr rfl)
    (hs : swapsWith e (some (.Name x p)) pos.line X.env = pure false := by rfl) (hf : X.fn x = true ∨ X.env.scope.names.lookup x = some .local := by first | exact .inl rfl | exact .inr rfl) : SV X T lk (.Assign [.Name x p] e pos) (sSetF i f) := by
  obtain ⟨t, pe, h⟩ := he
  refine ⟨_, ps_set hN hi hx pe hs hf, fun env r hf G σ H L Lx hR hS D hD => ?_⟩
  unfold sSetF at hf
  obtain ⟨⟨o, env1⟩, e1, hf⟩ := bind_eq hf
  obtain ⟨y, e2, hf⟩ := bind_eq hf
  cases hf
  refine h env o env1 e1 G σ H L Lx hR hS _ fun G1 v H1 L1 Lo s1 ot R1 S1 => ?_
  obtain ⟨G2, m2, d2, S2⟩ := frz_of ot e2 S1
  obtain ⟨L', q1, q2⟩ := rel_put (j := i) (rel_mono m2 R1) (.d d2)
  exact hD G2 (σ.set i (some v)) H1 L' (s1.trans m2) (lk_set hl) q1 (S2.sub (Sub.right (by simpa using q2)))
theorem setc_imp {i : Nat} {fi : ExI} {own : List Nat} {t : Tg} {fc : ExB} {fe : Ex} {te : TE} (hl : lk i = false) (frzd : Bool)
    (h : ∀ {env env' : Ev} {o : O}, eComp own fi t fc fe env = some (o, env') → ∀ {G : Hp} {σ : St} {H : Hp} {L Lx : List Cell}, RelS X.K G env σ L → Sep T G H (L ++ Lx) → ∀ {Q : VK}, PostE X T Lx G σ o env' Q → te σ H Q) :
    SImp X T lk (if frzd then sSetF i (eComp own fi t fc fe) else sSet i (eComp own fi t fc fe)) (tAsg te (gName i)) := by
  intro env r hf G σ H L Lx hR hS D hD
  cases frzd with
  | false =>
    simp only [Bool.false_eq_true, if_false] at hf
    unfold sSet at hf
    obtain ⟨⟨o, env1⟩, e1, hf⟩ := bind_eq hf
    cases hf
    refine h e1 hR hS fun G1 v H1 L1 Lo s1 ot R1 S1 => ?_
    obtain ⟨L', q1, q2⟩ := rel_put (j := i) R1 ot
    exact hD G1 (σ.set i (some v)) H1 L' s1 (lk_set hl) q1 (S1.sub (by rw [← List.append_assoc]; exact q2.right))
  | true =>
    simp only [if_true] at hf
    unfold sSetF at hf
    obtain ⟨⟨o, env1⟩, e1, hf⟩ := bind_eq hf
    obtain ⟨y, e2, hf⟩ := bind_eq hf
    cases hf
    refine h e1 hR hS fun G1 v H1 L1 Lo s1 ot R1 S1 => ?_
    obtain ⟨G2, m2, d2, S2⟩ := frz_of ot e2 S1
    obtain ⟨L', q1, q2⟩ := rel_put (j := i) (rel_mono m2 R1) (.d d2)
    exact hD G2 (σ.set i (some v)) H1 L' (s1.trans m2) (lk_set hl) q1 (S2.sub (Sub.right (by simpa using q2)))
/-- y = [elt for tg in iter], y a local -/
theorem sv_setC {y : Str} {py spos : Pos} {elt tg iter : Expr} {scope : Scope} {own : List (Str × Nat)} {fi : ExI} {ns : List Nat} {t : Tg} {fe : Ex} (i : Nat) (frzd : Bool) (hc : X.calm = true) (hN : X.N.Nodup) (ok : BlkOk X.N X.env.scope scope own) (hi : IV X T tg iter fi)
    (hg : ∀ (s : Shared) (H : Hp) (C : Addr) (cl : List (Str × Addr)) (fp : List Addr), GV (BlkX X scope s H C cl fp) T tg ns t)
    (he : ∀ (s : Shared) (H : Hp) (C : Addr) (cl : List (Str × Addr)) (fp : List Addr), EV (BlkX X scope s H C cl fp) T elt fe)
    (hy : X.N[i]? = some y := by rfl) (hyl : X.env.scope.names.lookup y = some .local := by rfl) (hl : lk i = false := by rfl) (hsw : swapsWith (.ListComp elt [⟨tg, iter, [], 0⟩] scope pos) (some (.Name y py)) spos.line X.env = pure true := by exact sw_true rfl rfl rfl (by decide +kernel))
    (hns : ∀ j ∈ ns, j ∈ own.map (·.2) := by decide) (hnd : (own.map (·.2)).Nodup := by decide) (hs : ∀ x, foldedSetIterable iter X.env x = pure x := by intro _; rfl) : SV X T lk (.Assign [.Name y py] (.ListComp elt [⟨tg, iter, [], 0⟩] scope pos) spos) (if frzd then sSetF i (eComp (own.map (·.2)) fi t bYes fe) else sSet i (eComp (own.map (·.2)) fi t bYes fe)) := by
  obtain ⟨wi, pi, hi⟩ := hi
  obtain ⟨g, pg, hg⟩ := blk_g hg
  obtain ⟨te, pe, he⟩ := blk_e he
  refine ⟨_, ps_setLc hc hN hy hyl hsw pi ok pg (fun s H C cl fp => pts_nil) pe hs, setc_imp hl frzd fun {env env' o} hf {G σ H L Lx} hR hS {Q} hQ => ?_⟩
  exact comp_core hns hnd hi hg (fun env k env' h G σ H L Lx hR hS Q hQ => by
    cases h
    exact hQ G H L (.refl _) hR hS) he hf hR hS hQ
theorem sv_setCIf {y : Str} {py spos : Pos} {elt tg iter : Expr} {scope : Scope} {own : List (Str × Nat)} {fi : ExI} {ns : List Nat} {t : Tg} {fc : ExB} {fe : Ex} (i : Nat) (frzd : Bool) (hc : X.calm = true) (hN : X.N.Nodup) (ok : BlkOk X.N X.env.scope scope own) (hi : IV X T tg iter fi)
    (hg : ∀ (s : Shared) (H : Hp) (C : Addr) (cl : List (Str × Addr)) (fp : List Addr), GV (BlkX X scope s H C cl fp) T tg ns t)
    (ht : ∀ (s : Shared) (H : Hp) (C : Addr) (cl : List (Str × Addr)) (fp : List Addr), BV (BlkX X scope s H C cl fp) T c fc)
    (he : ∀ (s : Shared) (H : Hp) (C : Addr) (cl : List (Str × Addr)) (fp : List Addr), EV (BlkX X scope s H C cl fp) T elt fe)
    (hy : X.N[i]? = some y := by rfl) (hyl : X.env.scope.names.lookup y = some .local := by rfl) (hl : lk i = false := by rfl) (hsw : swapsWith (.ListComp elt [⟨tg, iter, [c], 0⟩] scope pos) (some (.Name y py)) spos.line X.env = pure true := by exact sw_true rfl rfl rfl (by decide +kernel))
    (hns : ∀ j ∈ ns, j ∈ own.map (·.2) := by decide) (hnd : (own.map (·.2)).Nodup := by decide) (hs : ∀ x, foldedSetIterable iter X.env x = pure x := by intro _; rfl) : SV X T lk (.Assign [.Name y py] (.ListComp elt [⟨tg, iter, [c], 0⟩] scope pos) spos) (if frzd then sSetF i (eComp (own.map (·.2)) fi t fc fe) else sSet i (eComp (own.map (·.2)) fi t fc fe)) := by
  obtain ⟨wi, pi, hi⟩ := hi
  obtain ⟨g, pg, hg⟩ := blk_g hg
  obtain ⟨tt, pt, ht⟩ := blk_b ht
  obtain ⟨te, pe, he⟩ := blk_e he
  refine ⟨_, ps_setLc hc hN hy hyl hsw pi ok pg (fun s H C cl fp => pts_one (pt s H C cl fp)) pe hs, setc_imp hl frzd fun {env env' o} hf {G σ H L Lx} hR hS {Q} hQ => ?_⟩
  exact comp_core hns hnd hi hg ht he hf hR hS hQ
/-- target = e -/
theorem sv_tg {tg : Expr} {f : Ex} {ns : List Nat} {t : Tg} (he : EV X T e f) (hg : GV X T tg ns t) (hl : ∀ j ∈ ns, lk j = false := by decide) (hs : swapsWithSole [tg] e pos.line X.env = pure false := by rfl) (hw : swappedStores [tg] e X.env = pure none := by rfl) (ha1 : (assignEach [tg] X.env).map (·.2) = [assign tg X.env] := by rfl) : SV X T lk (.Assign [tg] e pos) (sTg t f) := by
  obtain ⟨te, pe, h⟩ := he
  obtain ⟨g, pg, hg⟩ := hg
  refine ⟨_, ps_asg pe pg hs hw ha1, fun env r hf G σ H L Lx hR hS D hD => ?_⟩
  unfold sTg at hf
  obtain ⟨⟨o, env1⟩, e1, hf⟩ := bind_eq hf
  obtain ⟨y, e2, hf⟩ := bind_eq hf
  obtain ⟨env2, e3, hf⟩ := bind_eq hf
  cases hf
  refine h env o env1 e1 G σ H L Lx hR hS _ fun G1 v H1 L1 Lo s1 ot R1 S1 => ?_
  obtain ⟨G2, m2, d2, S2⟩ := frz_of ot e2 S1
  refine hg y env1 env2 e3 G2 σ H1 L1 Lx v d2 (rel_mono m2 R1) S2 _ fun σ3 L3 k3 l3 R3 S3 => ?_
  exact hD G2 σ3 H1 L3 (s1.trans m2) (fun i hi => k3 i fun z => by
    rw [hl i z] at hi
    cases hi) R3 S3
/-- x, y = a, b: plain local names -/
theorem sv_par2 {x y : Str} {px py pt pt2 : Pos} {kt k2 : Nat} {fa fb : Ex} (i j : Nat) (hc : X.calm = true) (hN : X.N.Nodup) (ha : EV X T a fa) (hb : EV X T b fb) (hi : X.N[i]? = some x := by rfl) (hj : X.N[j]? = some y := by rfl) (hij : i ≠ j := by decide)
    (hx : X.env.scope.names.lookup x = some .local := by rfl) (hy : X.env.scope.names.lookup y = some .local := by rfl) (hli : lk i = false := by rfl) (hlj : lk j = false := by rfl)
    (hw : swappedStores [.Tuple [.Name x px, .Name y py] kt pt] (.Tuple [a, b] k2 pt2) X.env = pure (some [x, y]) := by rfl) (hs : swapsWithSole [.Tuple [.Name x px, .Name y py] kt pt] (.Tuple [a, b] k2 pt2) pos.line X.env = pure false := by rfl)
    (hs1 : starEach [a, b] X.env = (false, eval a X.env) :: starEach [b] X.env := by rfl) (hs2 : starEach [b] X.env = (false, eval b X.env) :: starEach [] X.env := by rfl) :
    SV X T lk (.Assign [.Tuple [.Name x px, .Name y py] kt pt] (.Tuple [a, b] k2 pt2) pos) (sPar2 i j fa fb) := by
  obtain ⟨ta, pa, h1⟩ := ha
  obtain ⟨tb, pb, h2⟩ := hb
  refine ⟨_, ps_par hc hN hi hj hij hx hy (pa_cons pa (pa_cons pb pa_nil hs2) hs1) hw hs, fun env r hf G σ H L Lx hR hS D hD => ?_⟩
  unfold sPar2 at hf
  obtain ⟨⟨o1, env1⟩, e1, hf⟩ := bind_eq hf
  obtain ⟨⟨o2, env2⟩, e2, hf⟩ := bind_eq hf
  cases hf
  refine h1 env o1 env1 e1 G σ H L Lx hR hS _ fun G1 v1 H1 L1 Lo1 s1 ot1 R1 S1 => ?_
  refine h2 env1 o2 env2 e2 G1 σ H1 L1 (Lo1 ++ Lx) R1 S1.comm3 _ fun G2 v2 H2 L2 Lo2 s2 ot2 R2 S2 => ?_
  refine ⟨v1, v2, rfl, ?_⟩
  obtain ⟨L3, q1, q2⟩ := rel_put (j := i) R2 (ot_mono s2 ot1)
  obtain ⟨L4, q3, q4⟩ := rel_put (j := j) q1 ot2
  refine hD G2 _ H2 L4 (s1.trans s2) (fun n hn => by rw [lk_set hlj n hn, lk_set hli n hn]) q3 (S2.sub ?_)
  refine Sub.trans (L' := Lo2 ++ (Lo1 ++ (L2 ++ Lx))) (.perm ((List.perm_append_comm_assoc L2 Lo1 Lx).append_left Lo2)) ?_
  rw [← List.append_assoc Lo1, ← List.append_assoc]
  exact (Sub.trans q2.left q4).right
/-- x[i] = v -/
theorem sv_sub {x : Str} {i v : Expr} {p1 p2 : Pos} {fi fv : Ex} (j : Nat) (hv : EV X T v fv) (hi : EV X T i fi) (hN : X.N[j]? = some x := by rfl) (hvis : Vis X.env.scope x := by first | exact Or.inl rfl | exact Or.inr (Or.inl rfl) | exact Or.inr (Or.inr rfl)) (hd : (x == ("__debug__" : Str)) = false := by decide)
    (hcd : (x == ("__classdict__" : Str)) = false := by decide) (hs : swapsWithSole [.Subscript (.Name x p1) i p2] v pos.line X.env = pure false := by rfl) (hw : swappedStores [.Subscript (.Name x p1) i p2] v X.env = pure none := by rfl)
    (hps : ∀ {to ti : TE} {t : TSet}, PE X (.Name x p1) to → PE X i ti → PSet X t → PG X (.Subscript (.Name x p1) i p2) (L2.gSub to ti t) := by exact fun h1 h2 h3 => pg_sub h1 h2 h3) :
    SV X T lk (.Assign [.Subscript (.Name x p1) i p2] v pos) (sSub j fi fv) := by
  obtain ⟨tv, pv', h1⟩ := hv
  obtain ⟨ti, pi, h2⟩ := hi
  refine ⟨_, ps_asg pv' (hps (pe_var hN hvis hd hcd) pi set_list) hs hw, fun env r hf G σ H L Lx hR hS D hD => ?_⟩
  unfold sSub at hf
  obtain ⟨⟨o1, env1⟩, e1, hf⟩ := bind_eq hf
  obtain ⟨o0, e0, hf⟩ := bind_eq hf
  obtain ⟨⟨o2, env2⟩, e2, hf⟩ := bind_eq hf
  obtain ⟨o3, e3, hf⟩ := bind_eq hf
  obtain ⟨xs, e4, hf⟩ := bind_eq hf
  obtain ⟨y, e5, hf⟩ := bind_eq hf
  obtain ⟨k, e6, hf⟩ := bind_eq hf
  obtain ⟨n, e7, hf⟩ := bind_eq hf
  cases hf
  refine h1 env o1 env1 e1 G σ H L Lx hR hS _ fun G1 v1 H1 L1 Lo1 s1 ot1 R1 S1 => ?_
  obtain ⟨v0, c0, g1, g2, g3⟩ := rel_get R1 e0
  refine ⟨v0, g1, ?_⟩
  refine h2 env1 o2 env2 e2 G1 σ H1 L1 (Lo1 ++ Lx) R1 S1.comm3 _ fun G2 v2 H2 L2 Lo2 s2 ot2 R2 S2 => ?_
  obtain ⟨rfl, rfl, rfl⟩ := int_of ot2 e6
  have S2' : Sep T G2 H2 (Lo1 ++ (L2 ++ Lx)) := Sep.comm3 S2
  obtain ⟨G3, m3, d3, S3⟩ := frz_of (ot_mono s2 ot1) e5 S2'
  have ex := oOwn_eq e4
  subst ex
  obtain ⟨v3, c3, L3, f1, f2, f3, f4⟩ := rel_take R2 e3
  rw [g1] at f1
  cases f1
  cases f2 with
  | @l _ p vs dv =>
    have S4 : Sep T G3 H2 ((p, .lst vs) :: (L3 ++ Lx)) := S3.sub (.perm (by simpa using f3.append_right Lx))
    refine ⟨p, vs, k, n, rfl, rfl, (S4.at_ _ List.mem_cons_self).1, by rw [dps_len dv]; exact e7, ?_⟩
    have S5 := S4.change (o' := .lst (vs.set n v1))
    obtain ⟨L', q1, q2⟩ := rel_put_at (rel_mono m3 f4) slot_set_same g1 (.l (dps_set n (dps_mono m3 _ _ dv) d3))
    rw [List.set_set] at q1
    exact hD G3 σ _ L' ((s1.trans s2).trans m3) (fun _ _ => rfl) q1 (S5.sub (.perm (by simpa using (q2.append_right Lx).symm)))
/-- x.append(v) -/
theorem sv_app {x : Str} {v : Expr} {p1 p2 p3 : Pos} {fv : Ex} (j : Nat) (hv : EV X T v fv) (hN : X.N[j]? = some x := by rfl) (hvis : Vis X.env.scope x := by first | exact Or.inl rfl | exact Or.inr (Or.inl rfl) | exact Or.inr (Or.inr rfl)) (hd : (x == ("__debug__" : Str)) = false := by decide)
    (hcd : (x == ("__classdict__" : Str)) = false := by decide) (hs1 : starEach [v] X.env = (false, eval v X.env) :: starEach [] X.env := by rfl)
    (hp : ∀ {to : TE} {t : TA}, PE X (.Name x p1) to → PA X [v] t → PE X (.Call (.Attribute (.Name x p1) "append" p2) [v] [] p3) (tBM X.K "list" rAppend to t) := by exact fun h1 h2 => pe_bm PySem.F.plainAttrs_list PySem.F.slot_list_append PySem.F.type_list_append mt_append h1 h2)
    (hs : swapsWith (.Call (.Attribute (.Name x p1) "append" p2) [v] [] p3) none pos.line X.env = pure false := by rfl) : SV X T lk (.Expr (.Call (.Attribute (.Name x p1) "append" p2) [v] [] p3) pos) (sApp j fv) := by
  obtain ⟨tv, pv', h1⟩ := hv
  refine ⟨_, ps_expr (hp (pe_var hN hvis hd hcd) (pa_cons pv' pa_nil hs1)) hs, fun env r hf G σ H L Lx hR hS D hD => ?_⟩
  unfold sApp at hf
  obtain ⟨o0, e0, hf⟩ := bind_eq hf
  obtain ⟨xs0, e00, hf⟩ := bind_eq hf
  obtain ⟨⟨o1, env1⟩, e1, hf⟩ := bind_eq hf
  obtain ⟨o3, e3, hf⟩ := bind_eq hf
  obtain ⟨xs, e4, hf⟩ := bind_eq hf
  obtain ⟨y, e5, hf⟩ := bind_eq hf
  split at hf
  · rename_i hl
    cases hf
    have ex0 := oOwn_eq e00
    subst ex0
    have ex := oOwn_eq e4
    subst ex
    obtain ⟨v0, c0, g1, g2, g3⟩ := rel_get hR e0
    cases g2 with
    | @l _ p vs0 dv0 =>
      refine ⟨.ref p, g1, .inl ⟨rfl, _, .inl (.inl (hS.at_ _ (List.mem_append_left _ (g3 _ List.mem_cons_self))).1)⟩, ?_⟩
      refine h1 env o1 env1 e1 G σ H L Lx hR hS _ fun G1 v1 H1 L1 Lo1 s1 ot1 R1 S1 => ?_
      obtain ⟨G3, m3, d3, S3⟩ := frz_of ot1 e5 S1
      obtain ⟨v3, c3, L3, f1, f2, f3, f4⟩ := rel_take R1 e3
      rw [g1] at f1
      cases f1
      cases f2 with
      | @l _ p vs dv =>
        have S4 : Sep T G3 H1 ((p, .lst vs) :: (L3 ++ Lx)) := S3.sub (.perm (by simpa using f3.append_right Lx))
        refine ⟨p, vs, v1, rfl, rfl, (S4.at_ _ List.mem_cons_self).1, by rw [dps_len dv]; exact Nat.lt_trans hl line_ge, ?_⟩
        have S5 := S4.change (o' := .lst (vs ++ [v1]))
        obtain ⟨L', q1, q2⟩ := rel_put_at (rel_mono m3 f4) slot_set_same g1 (.l (dps_app (dps_mono m3 _ _ dv) (.cons d3 .nil)))
        rw [List.set_set] at q1
        exact hD G3 σ _ L' (s1.trans m3) (fun _ _ => rfl) q1 (S5.sub (.perm (by simpa using (q2.append_right Lx).symm)))
  · cases hf
theorem sv_expr {f : Ex} (he : EV X T e f) (hs : swapsWith e none pos.line X.env = pure false := by rfl) : SV X T lk (.Expr e pos) (sExpr f) := by
  obtain ⟨t, p, h⟩ := he
  refine ⟨_, ps_expr p hs, fun env r hf G σ H L Lx hR hS D hD => ?_⟩
  unfold sExpr at hf
  obtain ⟨⟨o, env1⟩, e1, hf⟩ := bind_eq hf
  cases hf
  exact h env o env1 e1 G σ H L Lx hR hS _ fun G1 v H1 L1 Lo s1 ot R1 S1 => hD G1 σ H1 L1 s1 (fun _ _ => rfl) R1 (S1.sub .drop)
theorem sv_ret {f : Ex} (he : EV X T e f) : SV X T lk (.Return (some e) pos) (sRet f) := by
  obtain ⟨t, p, h⟩ := he
  refine ⟨_, ps_ret p, fun env r hf G σ H L Lx hR hS D hD => ?_⟩
  unfold sRet at hf
  obtain ⟨⟨o, env1⟩, e1, hf⟩ := bind_eq hf
  cases hf
  exact h env o env1 e1 G σ H L Lx hR hS _ fun G1 v H1 L1 Lo s1 ot R1 S1 => hD G1 v σ H1 L1 Lo s1 (fun _ _ => rfl) ot R1 S1
/-- return x, an owned list -/
theorem sv_retS {x : Str} {p : Pos} (j : Nat) (hN : X.N[j]? = some x := by rfl) (hv : Vis X.env.scope x := by first | exact Or.inl rfl | exact Or.inr (Or.inl rfl) | exact Or.inr (Or.inr rfl)) (hd : (x == ("__debug__" : Str)) = false := by decide)
    (hcd : (x == ("__classdict__" : Str)) = false := by decide) : SV X T lk (.Return (some (.Name x p)) pos) (sRetS j) := by
  refine ⟨_, ps_ret (pe_var hN hv hd hcd), fun env r hf G σ H L Lx hR hS D hD => ?_⟩
  unfold sRetS at hf
  obtain ⟨o, e1, hf⟩ := bind_eq hf
  cases hf
  obtain ⟨v, c, Lr, f1, f2, f3, f4⟩ := rel_take hR e1
  exact ⟨v, f1, hD G v σ H Lr c (.refl _) (fun _ _ => rfl) f2 f4 (hS.sub (.perm (by simpa using f3.append_right Lx)))⟩
theorem sv_if {fc : ExB} {f1 f2 : Sx} (hc : BV X T c fc) (h1 : SVs X T lk sts f1) (h2 : SVs X T lk sts2 f2) : SV X T lk (.If c sts sts2 pos) (sIf fc f1 f2) := by
  obtain ⟨t, p, h⟩ := hc
  obtain ⟨t1, p1, h1⟩ := h1
  obtain ⟨t2, p2, h2⟩ := h2
  refine ⟨_, ps_if p p1 p2, fun env r hf G σ H L Lx hR hS D hD => ?_⟩
  unfold sIf at hf
  obtain ⟨⟨k, env1⟩, e1, hf⟩ := bind_eq hf
  refine h env k env1 e1 G σ H L Lx hR hS _ fun G1 H1 L1 s1 R1 S1 => ?_
  cases k with
  | true =>
    simp only [if_true] at hf ⊢
    exact h1 env1 r hf G1 σ H1 L1 Lx R1 S1 D (hD.from s1 fun _ _ => rfl)
  | false =>
    simp only [Bool.false_eq_true, if_false] at hf ⊢
    exact h2 env1 r hf G1 σ H1 L1 Lx R1 S1 D (hD.from s1 fun _ _ => rfl)
theorem sv_brk : SV X T lk (.Break pos) sBrk := ⟨_, ps_break, fun env r hf G σ H L Lx hR hS D hD => by
  cases hf
  exact hD G σ H L (.refl _) (fun _ _ => rfl) hR hS⟩
theorem sv_pass : SV X T lk (.Pass pos) sNil := ⟨_, ps_pass, fun env r hf G σ H L Lx hR hS D hD => by
  cases hf
  exact hD G σ H L (.refl _) (fun _ _ => rfl) hR hS⟩
/-- a row that is never come to -/
theorem sv_nev : SV X T lk st sNev := ⟨_, ps_never, fun env r hf => by cases hf⟩
theorem sv_while {fc : ExB} {f : Sx} (n : Nat) (hp : PassesOwn (model X.prog X.w) X.A X.env X.xe) (hc : BV X T c fc) (hb : SVs X T lk sts f) : SV X T lk (.While c sts [] pos) (sWhile n fc f) := by
  obtain ⟨t, p, h⟩ := hc
  obtain ⟨t1, p1, h1⟩ := hb
  refine ⟨_, ps_while hp p p1, fun env r hf G σ H L Lx hR hS D hD => ?_⟩
  unfold sWhile at hf
  refine ⟨fun m σ2 H2 => ∃ G2 L2 e, Same G G2 ∧ (∀ i, lk i = true → σ2[i]? = σ[i]?) ∧ RelS X.K G2 e σ2 L2 ∧ Sep T G2 H2 (L2 ++ Lx) ∧ whileLoop fc f m e = some r, ⟨n, G, L, env, .refl _, fun _ _ => rfl, hR, hS, hf⟩, fun m σ2 H2 hW => ?_⟩
  obtain ⟨G2, L2, e, s2, k2, R2, S2, hf⟩ := hW
  cases m with
  | zero => cases hf
  | succ m =>
    unfold whileLoop at hf
    obtain ⟨⟨k, e1⟩, q1, hf⟩ := bind_eq hf
    refine h e k e1 q1 G2 σ2 H2 L2 Lx R2 S2 _ fun G3 H3 L3 s3 R3 S3 => ?_
    cases k with
    | false =>
      simp only [Bool.false_eq_true, if_false] at hf ⊢
      cases hf
      exact hD G3 σ2 H3 L3 (s2.trans s3) k2 R3 S3
    | true =>
      simp only [if_true] at hf ⊢
      obtain ⟨o, q2, hf⟩ := bind_eq hf
      refine ⟨fun σ' H' => ∃ G' L' e', Same G G' ∧ (∀ i, lk i = true → σ'[i]? = σ[i]?) ∧ RelS X.K G' e' σ' L' ∧ Sep T G' H' (L' ++ Lx) ∧ whileLoop fc f m e' = some r, fun σ' H' z => ⟨m, Nat.lt_succ_self m, z⟩, ?_⟩
      refine h1 e1 o q2 G3 σ2 H3 L3 Lx R3 S3 _ ?_
      cases o with
      | nx e4 => exact fun G4 σ4 H4 L4 s4 k4 R4 S4 => ⟨G4, L4, e4, (s2.trans s3).trans s4, fun i hi => (k4 i hi).trans (k2 i hi), R4, S4, hf⟩
      | bk e4 =>
        cases hf
        exact fun G4 σ4 H4 L4 s4 k4 R4 S4 => hD G4 σ4 H4 L4 ((s2.trans s3).trans s4) (fun i hi => (k4 i hi).trans (k2 i hi)) R4 S4
      | rt o4 e4 =>
        cases hf
        exact fun G4 v4 σ4 H4 L4 Lo4 s4 k4 ot4 R4 S4 => hD G4 v4 σ4 H4 L4 Lo4 ((s2.trans s3).trans s4) (fun i hi => (k4 i hi).trans (k2 i hi)) ot4 R4 S4
      | ex x4 e4 =>
        cases hf
        exact fun G4 σ4 H4 L4 cls d s4 k4 R4 S4 q4 => hD G4 σ4 H4 L4 cls d ((s2.trans s3).trans s4) (fun i hi => (k4 i hi).trans (k2 i hi)) R4 S4 q4
theorem sv_for {tg iter : Expr} {fi : ExI} {ns : List Nat} {t : Tg} {f : Sx} (hp : PassesOwn (model X.prog X.w) X.A X.env X.xe) (hc : X.calm = true) (hi : IV X T tg iter fi) (hg : GV X T tg ns t) (hb : SVs X T lk sts f) (hl : ∀ j ∈ ns, lk j = false := by decide) (hs : ∀ x, foldedSetIterable iter X.env x = pure x := by intro _; rfl) :
    SV X T lk (.For tg iter sts [] pos) (sFor fi t f) := by
  obtain ⟨wi, pi, hi⟩ := hi
  obtain ⟨g, pg, hg⟩ := hg
  obtain ⟨t1, p1, h1⟩ := hb
  refine ⟨_, ps_for hp hc pi pg p1 hs, fun env r hf G σ H L Lx hR hS D hD => ?_⟩
  unfold sFor at hf
  obtain ⟨⟨ds, env1⟩, e1, hf⟩ := bind_eq hf
  refine hi env ds env1 e1 G σ H L Lx hR hS _ fun G1 H1 L1 J s1 R1 S1 wk => ?_
  refine ⟨fun i m σ2 H2 => ∃ G2 L2 e, m + i = ds.length ∧ Same G1 G2 ∧ (∀ i, lk i = true → σ2[i]? = σ[i]?) ∧ RelS X.K G2 e σ2 L2 ∧ Sep T G2 H2 (L2 ++ Lx) ∧ forLoop t f (ds.drop i) e = some r, ⟨ds.length, G1, L1, env1, by simp, .refl _, fun _ _ => rfl, R1, S1, by simpa using hf⟩, fun i m σ2 H2 hW => ?_⟩
  obtain ⟨G2, L2, e, hm, s2, k2, R2, S2, hf⟩ := hW
  obtain ⟨w1, w2⟩ := wk i G2 H2 _ s2 S2
  by_cases hi' : i < ds.length
  · refine .inr ?_
    have hx : ds[i]? = some ds[i] := List.getElem?_eq_getElem hi'
    rw [List.drop_eq_getElem_cons hi'] at hf
    obtain ⟨go, yl⟩ := w1 _ hx
    unfold forLoop at hf
    obtain ⟨e3, q1, hf⟩ := bind_eq hf
    obtain ⟨o, q2, hf⟩ := bind_eq hf
    refine ⟨go, fun σ' H' => ∃ G' L' e', m - 1 + (i + 1) = ds.length ∧ Same G1 G' ∧ (∀ i, lk i = true → σ'[i]? = σ[i]?) ∧ RelS X.K G' e' σ' L' ∧ Sep T G' H' (L' ++ Lx) ∧ forLoop t f (ds.drop (i + 1)) e' = some r, fun σ' H' hN => ⟨m - 1, by omega, hN⟩, fun x H' hy => ?_⟩
    obtain ⟨G3, s3, dx, S3⟩ := yl x H' hy
    refine hg _ e e3 q1 G3 σ2 H' L2 Lx x dx (rel_mono s3 R2) S3 _ fun σ4 L4 k4 l4 R4 S4 => ?_
    have k4' : ∀ i, lk i = true → σ4[i]? = σ[i]? := fun j hj => (k4 j fun z => by
      rw [hl j z] at hj
      cases hj).trans (k2 j hj)
    refine h1 e3 o q2 G3 σ4 H' L4 Lx R4 S4 _ ?_
    cases o with
    | nx e5 => exact fun G5 σ5 H5 L5 s5 k5 R5 S5 => ⟨G5, L5, e5, by omega, (s2.trans s3).trans s5, fun j hj => (k5 j hj).trans (k4' j hj), R5, S5, hf⟩
    | bk e5 =>
      cases hf
      exact fun G5 σ5 H5 L5 s5 k5 R5 S5 => hD G5 σ5 H5 L5 (((s1.trans s2).trans s3).trans s5) (fun j hj => (k5 j hj).trans (k4' j hj)) R5 S5
    | rt o5 e5 =>
      cases hf
      exact fun G5 v5 σ5 H5 L5 Lo5 s5 k5 ot5 R5 S5 => hD G5 v5 σ5 H5 L5 Lo5 (((s1.trans s2).trans s3).trans s5) (fun j hj => (k5 j hj).trans (k4' j hj)) ot5 R5 S5
    | ex x5 e5 =>
      cases hf
      exact fun G5 σ5 H5 L5 cls d s5 k5 R5 S5 q5 => hD G5 σ5 H5 L5 cls d (((s1.trans s2).trans s3).trans s5) (fun j hj => (k5 j hj).trans (k4' j hj)) R5 S5 q5
  · refine .inl ⟨w2 (by omega), ?_⟩
    rw [List.drop_eq_nil_of_le (by omega)] at hf
    cases hf
    exact hD G2 σ2 H2 L2 (s1.trans s2) k2 R2 S2

/-! ### defs -/
theorem fins_len {lk : Nat → Bool} {e : Ev} : ∀ n, (fins lk e n).length = n
  | 0 => rfl
  | n + 1 => by
    unfold fins
    rw [List.length_append, fins_len n]
    rfl
end
section
variable {K : PySem.W.Frag} {T : TabsT} {G : Hp}
theorem rel_app {e1 e2 : Ev} {σ1 σ2 : St} {L1 L2 : List Cell} (h1 : RelS K G e1 σ1 L1) (h2 : RelS K G e2 σ2 L2) : RelS K G (e1 ++ e2) (σ1 ++ σ2) (L1 ++ L2) := by
  induction h1 with
  | nil => exact h2
  | none _ ih => exact .none ih
  | some h _ ih =>
    rw [List.append_assoc]
    exact .some h ih
theorem rel_nones : ∀ (n : Nat) (σ : St), σ.length = n → RelS K G (List.replicate n none) σ []
  | 0, [], _ => .nil
  | n + 1, x :: σ, h => .none (rel_nones n σ (by simpa using h))
/-- what the locked parameters hold at the end -/
theorem fins_rel {lk : Nat → Bool} {vs : List V} : ∀ (n : Nat) {e : Ev} {σ : St} {L : List Cell}, RelS K G e σ L → n ≤ vs.length → (∀ i, i < n → lk i = true → σ[i]? = some (vs[i]?)) →
    ∃ Lf Lr e', RelS K G (fins lk e n) ((vs.take n).map some) Lf ∧ RelS K G e' σ Lr ∧ L.Perm (Lf ++ Lr) ∧ ∀ i, n ≤ i → slot e' i = slot e i
  | 0, e, σ, L, h, _, _ => ⟨[], L, e, by simpa [fins] using RelS.nil, h, .refl _, fun _ _ => rfl⟩
  | n + 1, e, σ, L, h, hl, hk => by
    obtain ⟨Lf, Lr, e', a, b, p, q⟩ := fins_rel n h (by omega) fun i hi => hk i (by omega)
    have hv : vs[n]? = some vs[n] := List.getElem?_eq_getElem (by omega)
    have ht : (vs.take (n + 1)).map some = (vs.take n).map some ++ [some vs[n]] := by
      rw [List.take_add_one, hv, List.map_append]
      rfl
    unfold fins
    rw [ht]
    by_cases hlk : lk n = true
    · rw [if_pos hlk]
      cases hs : slot e n with
      | none =>
        refine ⟨Lf ++ [], Lr, e', rel_app a (.none .nil), b, by simpa using p, fun i hi => q i (by omega)⟩
      | some o =>
        have hs' : slot e' n = some o := by rw [q n (Nat.le_refl _), hs]
        obtain ⟨v, c, Lr', f1, f2, f3, f4⟩ := rel_take b hs'
        have hσ := hk n (by omega) hlk
        rw [f1, hv] at hσ
        cases hσ
        refine ⟨Lf ++ (c ++ []), Lr', e'.set n none, rel_app a (.some f2 .nil), f4, ?_, fun i hi => ?_⟩
        · rw [List.append_nil, List.append_assoc]
          exact p.trans (f3.append_left Lf)
        · rw [slot_set_ne (by omega)]
          exact q i (by omega)
    · rw [if_neg hlk]
      exact ⟨Lf ++ [], Lr, e', rel_app a (.none .nil), b, by simpa using p, fun i hi => q i (by omega)⟩
end
section
variable {P : Program} {w : World} {K : PySem.W.Frag} {mg : Str → Option Value} {base : Heap} {T : TabsT}
/-- a def keeps its promise: by its body's judgement -/
theorem def_okG {x qual : Str} {st : Stmt} {f : Addr} {fd : FuncData} {N ps : List Str} {k : Nat} {lk : Nat → Bool} {body : Sx} (F : L2.Fun K x qual st f fd) (S : FnScope N ps (defScope st)) (hlk : ∀ i, ps.length ≤ i → lk i = false)
    (hbody : ∀ (cdv : Value), fd.code = cdv → ∀ (A : Around) (outer : List Env) (s : Shared) (H : Hp) (E : XK), Room k (A.deeper (envOfC qual (defScope st) s.heap.objs.size f cdv)) → SVs (cxOf CX0 P w K mg base N qual (defScope st) f cdv A outer s H E).nox T lk (defBody st) body) :
    FnOk P w K mg base CX0 (k + 1) f fd ps (spD K T (runDef N.length ps.length lk body)) := by
  have hlen : ∀ {os : List O} {r : O × List (Option O)}, runDef N.length ps.length lk body os = some r → os.length = ps.length := fun {os r} h => by
    unfold runDef at h
    split at h
    · assumption
    · cases h
  obtain ⟨oc, od, kV, doc, pm, an, cdv, ct, osl, efd, lkf, hcd⟩ := F.ex
  have hb := hbody cdv (by rw [efd] <;> rfl)
  subst efd
  refine fn_of lkf hcd S (fun vs H Q E h => ?_) (fun A outer s H vs Q E hr h => ?_)
  · obtain ⟨G, os, cs, Lx, r, fs, hR, hS, hF, _⟩ := h
    have := rel_len hR
    simp only [List.length_map] at this
    rw [← this]
    exact hlen hF
  · obtain ⟨G, os, cs, Lx, r, fs, hR, hS, hF, hQ⟩ := h
    have hl := hlen hF
    have hlv : vs.length = ps.length := by
      have := rel_len hR
      simp only [List.length_map] at this
      omega
    have hN : ps.length ≤ N.length := by
      have := congrArg List.length S.pre
      rw [List.length_take] at this
      omega
    obtain ⟨t, p, h⟩ := hb A outer s H E hr
    refine ⟨t, p.nox, ?_⟩
    unfold runDef at hF
    rw [if_pos hl] at hF
    obtain ⟨o, e1, hF⟩ := bind_eq hF
    have R0 : RelS K G (os.map some ++ List.replicate (N.length - ps.length) none) (L2.start N vs) (cs ++ []) := by
      unfold L2.start
      rw [hlv]
      exact rel_app hR (rel_nones _ _ (by simp))
    rw [List.append_nil] at R0
    have lock : ∀ {σ' : St}, (∀ i, lk i = true → σ'[i]? = (L2.start N vs)[i]?) → ∀ i, i < ps.length → lk i = true → σ'[i]? = some (vs[i]?) := fun {σ'} hk i hi hlki => by
      rw [hk i hlki]
      unfold L2.start
      rw [List.getElem?_append_left (by simp; omega), List.getElem?_map, List.getElem?_eq_getElem (by omega)]
      rfl
    refine h _ o e1 G (L2.start N vs) H cs Lx R0 hS _ ?_
    cases o with
    | bk e => cases hF
    | ex x e => cases hF
    | nx e =>
      cases hF
      intro G' σ' H' L' s1 k1 R1 S1
      obtain ⟨Lf, Lr, e', a, b, c, _⟩ := fins_rel (lk := lk) (vs := vs) ps.length R1 (by omega) (lock k1)
      rw [show vs.take ps.length = vs by rw [← hlv]; exact List.take_length] at a
      exact hQ G' .non H' [] Lf s1 (.d .non) a (S1.sub (Sub.right (Sub.trans (.perm c) .dropR)))
    | rt r' e =>
      cases hF
      intro G' v σ' H' L' Lo s1 k1 ot R1 S1
      obtain ⟨Lf, Lr, e', a, b, c, _⟩ := fins_rel (lk := lk) (vs := vs) ps.length R1 (by omega) (lock k1)
      rw [show vs.take ps.length = vs by rw [← hlv]; exact List.take_length] at a
      exact hQ G' v H' Lo Lf s1 ot a (S1.sub ((Sub.right (Sub.trans (.perm c) .dropR)).left))
theorem def_ok {x qual : Str} {st : Stmt} {f : Addr} {fd : FuncData} {N ps : List Str} {k : Nat} {lk : Nat → Bool} {body : Sx} (F : L2.Fun K x qual st f fd) (S : FnScope N ps (defScope st)) (hlk : ∀ i, ps.length ≤ i → lk i = false)
    (hbody : ∀ (cdv : Value) (A : Around) (outer : List Env) (s : Shared) (H : Hp) (E : XK), Room k (A.deeper (envOfC qual (defScope st) s.heap.objs.size f cdv)) → SVs (cxOf CX0 P w K mg base N qual (defScope st) f cdv A outer s H E).nox T lk (defBody st) body) :
    FnOk P w K mg base CX0 (k + 1) f fd ps (spD K T (runDef N.length ps.length lk body)) :=
  def_okG F S hlk fun cdv _ => hbody cdv
/-- the def's code object is known -/
theorem def_okT {x qual : Str} {st : Stmt} {f c : Addr} {fd : FuncData} {N ps : List Str} {k : Nat} {lk : Nat → Bool} {body : Sx} (hcd : fd.code = .ref c) (F : L2.Fun K x qual st f fd) (S : FnScope N ps (defScope st)) (hlk : ∀ i, ps.length ≤ i → lk i = false)
    (hbody : ∀ (A : Around) (outer : List Env) (s : Shared) (H : Hp) (E : XK), Room k (A.deeper (envOfC qual (defScope st) s.heap.objs.size f (.ref c))) → SVs (cxOf CX0 P w K mg base N qual (defScope st) f (.ref c) A outer s H E).nox T lk (defBody st) body) :
    FnOk P w K mg base CX0 (k + 1) f fd ps (spD K T (runDef N.length ps.length lk body)) :=
  def_okG F S hlk fun cdv h => by
    obtain rfl : Value.ref c = cdv := hcd.symm.trans h
    exact hbody
end
end Sh

/-! Shift layer: list comprehensions of two clauses. -/
namespace Sh
open PySem PySem.Spec PyProof.Rows L2
def compLoop2 (own own1 : List Nat) (tg : Tg) (cond : ExB) (it1 : ExI) (tg1 : Tg) (cond1 : ExB) (elt : Ex) : List D → Ev → Option (List D × Ev)
  | [], e => some ([], e)
  | x :: xs, e => (tg x e).bind fun e1 => (cond e1).bind fun p =>
    if p.1 = true then (it1 p.2).bind fun q => (compLoop own1 tg1 cond1 elt q.1 (wipeE q.2 own1)).bind fun r => (compLoop2 own own1 tg cond it1 tg1 cond1 elt xs (wipeE r.2 own)).bind fun z => some (r.1 ++ z.1, z.2)
    else compLoop2 own own1 tg cond it1 tg1 cond1 elt xs (wipeE p.2 own)
@[simp] def eComp2 (own own1 : List Nat) (it : ExI) (tg : Tg) (cond : ExB) (it1 : ExI) (tg1 : Tg) (cond1 : ExB) (elt : Ex) : Ex := fun e => (it e).bind fun p => if plainE p.2 own = true then
  (compLoop2 own own1 tg cond it1 tg1 cond1 elt p.1 (wipeE p.2 own)).bind fun r => if r.1.length ≤ 1000000 then some (.l r.1, backE p.2 r.2 own) else none else none
section
variable {X : Cx} {T : TabsT} {lk : Nat → Bool} {a b c e : Expr} {pos : Pos} {rest es : List Expr}
/-- one reading for all blocks -/
theorem blk_i {scope : Scope} {tg it : Expr} {fi : ExI} (hi : ∀ (s : Shared) (H : Hp) (C : Addr) (cl : List (Str × Addr)) (fp : List Addr), IV (BlkX X scope s H C cl fp) T tg it fi) :
    ∃ wi : TI, (∀ (s : Shared) (H : Hp) (C : Addr) (cl : List (Str × Addr)) (fp : List Addr), PI (BlkX X scope s H C cl fp) tg it wi) ∧ ∀ (env : Ev) (ds : List D) (env' : Ev), fi env = some (ds, env') → ∀ (G : Hp) (σ : St) (H : Hp) (L Lx : List Cell), RelS X.K G env σ L → Sep T G H (L ++ Lx) →
      ∀ R : It → Hp → Prop, (∀ (G' H' : Hp) (L' : List Cell) (J : It), Same G G' → RelS X.K G' env' σ L' → Sep T G' H' (L' ++ Lx) → WalkD X.K T J ds G' → R J H') → wi σ H R := by
  refine ⟨fun σ H R => ∀ (s0 : Shared) (H0 : Hp) (C : Addr) (cl : List (Str × Addr)) (fp : List Addr) (pins : List (Addr × Obj)) (s : Shared), Inv (BlkX X scope s0 H0 C cl fp) pins σ H s →
    wpAny (model X.prog X.w) X.A (eval it (BlkX X scope s0 H0 C cl fp).env) (fun v s1 => wpAny (model X.prog X.w) X.A (pyIter v) (PIE (BlkX X scope s0 H0 C cl fp) pins σ tg R) (BlkX X scope s0 H0 C cl fp).xe s1) (BlkX X scope s0 H0 C cl fp).xe s, fun s0 H0 C cl fp => ⟨fun pins s σ H R I h => h s0 H0 C cl fp pins s I⟩, fun env ds env' hf G σ H L Lx hR hS R hQ s0 H0 C cl fp pins s I => ?_⟩
  obtain ⟨t, p, h⟩ := hi s0 H0 C cl fp
  exact p.run pins s σ H R I (h env ds env' hf G σ H L Lx hR hS R hQ)
theorem comp2_core {fi fi1 : ExI} {ns own ns1 own1 : List Nat} {t t1 : Tg} {fc fc1 : ExB} {fe : Ex} {wi wi1 : TI} {g g1 : TG} {tt tt1 : TT} {te : TE} (hns : ∀ j ∈ ns, j ∈ own) (hnd : own.Nodup) (hns1 : ∀ j ∈ ns1, j ∈ own1) (hsub : ∀ j ∈ own1, j ∈ own)
    (hi : ∀ (env : Ev) (ds : List D) (env' : Ev), fi env = some (ds, env') → ∀ (G : Hp) (σ : St) (H : Hp) (L Lx : List Cell), RelS X.K G env σ L → Sep T G H (L ++ Lx) →
      ∀ R : It → Hp → Prop, (∀ (G' H' : Hp) (L' : List Cell) (J : It), Same G G' → RelS X.K G' env' σ L' → Sep T G' H' (L' ++ Lx) → WalkD X.K T J ds G' → R J H') → wi σ H R)
    (hg : ∀ (x : D) (env env' : Ev), t x env = some env' → ∀ (G : Hp) (σ : St) (H : Hp) (L Lx : List Cell) (v : V), Dq X.K G v x → RelS X.K G env σ L → Sep T G H (L ++ Lx) →
      ∀ Q : St → Hp → Prop, (∀ (σ' : St) (L' : List Cell), (∀ j, j ∉ ns → σ'[j]? = σ[j]?) → σ'.length = σ.length → RelS X.K G env' σ' L' → Sep T G H (L' ++ Lx) → Q σ' H) → g v σ H Q)
    (ht : BImp X T fc tt)
    (hi1 : ∀ (env : Ev) (ds : List D) (env' : Ev), fi1 env = some (ds, env') → ∀ (G : Hp) (σ : St) (H : Hp) (L Lx : List Cell), RelS X.K G env σ L → Sep T G H (L ++ Lx) →
      ∀ R : It → Hp → Prop, (∀ (G' H' : Hp) (L' : List Cell) (J : It), Same G G' → RelS X.K G' env' σ L' → Sep T G' H' (L' ++ Lx) → WalkD X.K T J ds G' → R J H') → wi1 σ H R)
    (hg1 : ∀ (x : D) (env env' : Ev), t1 x env = some env' → ∀ (G : Hp) (σ : St) (H : Hp) (L Lx : List Cell) (v : V), Dq X.K G v x → RelS X.K G env σ L → Sep T G H (L ++ Lx) →
      ∀ Q : St → Hp → Prop, (∀ (σ' : St) (L' : List Cell), (∀ j, j ∉ ns1 → σ'[j]? = σ[j]?) → σ'.length = σ.length → RelS X.K G env' σ' L' → Sep T G H (L' ++ Lx) → Q σ' H) → g1 v σ H Q)
    (ht1 : BImp X T fc1 tt1)
    (he : ∀ (env : Ev) (o : O) (env' : Ev), fe env = some (o, env') → ∀ (G : Hp) (σ : St) (H : Hp) (L Lx : List Cell), RelS X.K G env σ L → Sep T G H (L ++ Lx) → ∀ Q : VK, PostE X T Lx G σ o env' Q → te σ H Q)
    {env env' : Ev} {o : O} (hf : eComp2 own own1 fi t fc fi1 t1 fc1 fe env = some (o, env')) {G : Hp} {σ : St} {H : Hp} {L Lx : List Cell} (hR : RelS X.K G env σ L) (hS : Sep T G H (L ++ Lx)) {Q : VK} (hQ : PostE X T Lx G σ o env' Q) : tLc2 wi g tt wi1 g1 tt1 te own own1 σ H Q := by
  unfold eComp2 at hf
  obtain ⟨⟨ds, env1⟩, e1, hf⟩ := bind_eq hf
  simp only at hf
  split at hf
  case isFalse => cases hf
  rename_i hlp
  obtain ⟨⟨zs, eF⟩, e2, hf⟩ := bind_eq hf
  simp only at hf
  split at hf
  case isFalse => cases hf
  rename_i hzl
  cases hf
  refine hi env ds env1 e1 G σ H L Lx hR hS _ fun G1 H1 L1 J s1 R1 S1 wk => ?_
  intro Da hDa
  obtain ⟨Lw, Rw, sw⟩ := rel_wipe R1 own
  refine ⟨fun i m H2 => ∃ G2 L2 acc ys e rs, m + i = ds.length ∧ Same G1 G2 ∧ RelS X.K G2 e (wipe σ own) L2 ∧ Sep T G2 H2 ((Da, .lst acc) :: (L2 ++ Lx)) ∧ DqAll X.K G2 acc ys ∧ compLoop2 own own1 t fc fi1 t1 fc1 fe (ds.drop i) e = some (rs, eF) ∧ ys ++ rs = zs, ⟨ds.length, ?_⟩, fun i m H2 hW => ?_⟩
  · exact ⟨G1, Lw, [], [], wipeE env1 own, zs, by simp, .refl _, Rw, (S1.sub sw.right).owned hDa, .nil, by simpa using e2, rfl⟩
  obtain ⟨G2, L2, acc, ys, e, rs, hm, s2, R2, S2, da, cl, hz⟩ := hW
  obtain ⟨w1, w2⟩ := wk i G2 H2 _ s2 S2
  by_cases hi' : i < ds.length
  case neg =>
    refine .inl ⟨w2 (by omega), ?_⟩
    rw [List.drop_eq_nil_of_le (by omega)] at cl
    cases cl
    rw [List.append_nil] at hz
    subst hz
    obtain ⟨L9, a9, b9⟩ := rel_back own hnd hlp (fun v x hv => by
      obtain ⟨u, c, h1, h2, _⟩ := rel_get R1 hv
      cases h2 with
      | d h2 => exact ⟨u, h1, dp_mono s2 _ _ h2⟩) R2
    exact hQ G2 (.ref Da) H2 L9 [(Da, .lst acc)] (s1.trans s2) (.l da) a9 (S2.sub ((b9.right).left (Lx := [(Da, .lst acc)])))
  refine .inr ?_
  have hx : ds[i]? = some ds[i] := List.getElem?_eq_getElem hi'
  rw [List.drop_eq_getElem_cons hi'] at cl
  obtain ⟨go, yl⟩ := w1 _ hx
  unfold compLoop2 at cl
  obtain ⟨e3, q1, cl⟩ := bind_eq cl
  obtain ⟨⟨k, e4⟩, q2, cl⟩ := bind_eq cl
  refine ⟨go, fun H' => ∃ G' L' acc' ys' e' rs', m - 1 + (i + 1) = ds.length ∧ Same G1 G' ∧ RelS X.K G' e' (wipe σ own) L' ∧ Sep T G' H' ((Da, .lst acc') :: (L' ++ Lx)) ∧ DqAll X.K G' acc' ys' ∧ compLoop2 own own1 t fc fi1 t1 fc1 fe (ds.drop (i + 1)) e' = some (rs', eF) ∧ ys' ++ rs' = zs, fun H' hN => ⟨m - 1, by omega, hN⟩, fun x H' hy => ?_⟩
  obtain ⟨G3, s3, dx, S3⟩ := yl x H' hy
  have S3' : Sep T G3 H' (L2 ++ ((Da, .lst acc) :: Lx)) := S3.sub (.perm (List.perm_middle.symm))
  refine hg _ e e3 q1 G3 (wipe σ own) H' L2 _ x dx (rel_mono s3 R2) S3' _ fun σ4 L4 k4 l4 R4 S4 => ?_
  have hwp : wipe σ4 own = wipe σ own := (wipe_of l4 fun j hj => k4 j fun z => hj (hns j z)).trans wipe_wipe
  refine ⟨hwp, ?_⟩
  refine ht e3 k e4 q2 G3 σ4 H' L4 _ R4 S4 _ fun G5 H5 L5 s5 R5 S5 => ?_
  cases k with
  | false =>
    simp only [Bool.false_eq_true, if_false] at cl ⊢
    obtain ⟨L7, a7, b7⟩ := rel_wipe R5 own
    rw [hwp] at a7
    exact ⟨G5, L7, acc, ys, wipeE e4 own, rs, by omega, (s2.trans s3).trans s5, a7, (S5.sub b7.right).sub (.perm List.perm_middle), dps_mono (s3.trans s5) _ _ da, cl, hz⟩
  | true =>
    simp only [if_true] at cl ⊢
    obtain ⟨⟨ds1, e5⟩, q3, cl⟩ := bind_eq cl
    obtain ⟨⟨r1, e6⟩, q4, cl⟩ := bind_eq cl
    obtain ⟨⟨r2, eF'⟩, q5, cl⟩ := bind_eq cl
    cases cl
    refine hi1 e4 ds1 e5 q3 G5 σ4 H5 L5 _ R5 S5 _ fun G6 H6 L6 J1 s6 R6 S6 wk1 => ?_
    obtain ⟨Lv, Rv, sv⟩ := rel_wipe R6 own1
    have t6 : Same G1 G6 := ((s2.trans s3).trans s5).trans s6
    refine ⟨fun j n H7 => ∃ G7 L7 acc7 ys7 e7 rs7, n + j = ds1.length ∧ Same G6 G7 ∧ RelS X.K G7 e7 (wipe σ4 own1) L7 ∧ Sep T G7 H7 ((Da, .lst acc7) :: (L7 ++ Lx)) ∧ DqAll X.K G7 acc7 ys7 ∧ compLoop own1 t1 fc1 fe (ds1.drop j) e7 = some (rs7, e6) ∧ ys7 ++ (rs7 ++ r2) = zs, ⟨ds1.length, ?_⟩, fun j n H7 hW => ?_⟩
    · exact ⟨G6, Lv, acc, ys, wipeE e5 own1, r1, by simp, .refl _, Rv, (S6.sub sv.right).sub (.perm List.perm_middle), dps_mono ((s3.trans s5).trans s6) _ _ da, by simpa using q4, hz⟩
    obtain ⟨G7, L7, acc7, ys7, e7, rs7, hn7, s7, R7, S7, da7, cl7, hz7⟩ := hW
    obtain ⟨w3, w4⟩ := wk1 j G7 H7 _ s7 S7
    by_cases hj : j < ds1.length
    case neg =>
      refine .inl ⟨w4 (by omega), ?_⟩
      rw [List.drop_eq_nil_of_le (by omega)] at cl7
      cases cl7
      obtain ⟨L9, a9, b9⟩ := rel_wipe R7 own
      have hw2 : wipe (wipe σ4 own1) own = wipe σ own := (wipe_of (wipe_length _ _) fun j hj => by rw [wipe_get, if_neg fun z => hj (hsub j z)]).trans hwp
      rw [hw2] at a9
      exact ⟨G7, L9, acc7, ys7, _, r2, by omega, t6.trans s7, a9, S7.sub (Sub.left (Lx := [(Da, .lst acc7)]) b9.right), da7, q5, by simpa using hz7⟩
    refine .inr ?_
    have hx1 : ds1[j]? = some ds1[j] := List.getElem?_eq_getElem hj
    rw [List.drop_eq_getElem_cons hj] at cl7
    obtain ⟨go1, yl1⟩ := w3 _ hx1
    unfold compLoop at cl7
    obtain ⟨e8, q6, cl7⟩ := bind_eq cl7
    obtain ⟨⟨k1, e9⟩, q7, cl7⟩ := bind_eq cl7
    refine ⟨go1, fun H8 => ∃ G8 L8 acc8 ys8 e8 rs8, n - 1 + (j + 1) = ds1.length ∧ Same G6 G8 ∧ RelS X.K G8 e8 (wipe σ4 own1) L8 ∧ Sep T G8 H8 ((Da, .lst acc8) :: (L8 ++ Lx)) ∧ DqAll X.K G8 acc8 ys8 ∧ compLoop own1 t1 fc1 fe (ds1.drop (j + 1)) e8 = some (rs8, e6) ∧ ys8 ++ (rs8 ++ r2) = zs, fun H8 hN => ⟨n - 1, by omega, hN⟩, fun x1 H8 hy1 => ?_⟩
    obtain ⟨G8, s8, dx8, S8⟩ := yl1 x1 H8 hy1
    have S8' : Sep T G8 H8 (L7 ++ ((Da, .lst acc7) :: Lx)) := S8.sub (.perm (List.perm_middle.symm))
    refine hg1 _ e7 e8 q6 G8 (wipe σ4 own1) H8 L7 _ x1 dx8 (rel_mono s8 R7) S8' _ fun σ9 L9 k9 l9 R9 S9 => ?_
    have hwp1 : wipe σ9 own1 = wipe σ4 own1 := (wipe_of l9 fun j hj => k9 j fun z => hj (hns1 j z)).trans wipe_wipe
    refine ⟨hwp1, ?_⟩
    refine ht1 e8 k1 e9 q7 G8 σ9 H8 L9 _ R9 S9 _ fun Ga Ha La sa Ra Sa => ?_
    have back : ∀ {G6 H6 : Hp} {L6 : List Cell} {e6 : Ev} {acc6 : List V}, RelS X.K G6 e6 σ9 L6 → Sep T G6 H6 (L6 ++ ((Da, .lst acc6) :: Lx)) → ∃ L7, RelS X.K G6 (wipeE e6 own1) (wipe σ4 own1) L7 ∧ Sep T G6 H6 ((Da, .lst acc6) :: (L7 ++ Lx)) := fun {G6 H6 L6 e6 acc6} r6 S6 => by
      obtain ⟨L7, a7, b7⟩ := rel_wipe r6 own1
      rw [hwp1] at a7
      exact ⟨L7, a7, (S6.sub b7.right).sub (.perm List.perm_middle)⟩
    cases k1 with
    | false =>
      simp only [Bool.false_eq_true, if_false] at cl7 ⊢
      obtain ⟨L7', a7, b7⟩ := back Ra Sa
      exact ⟨Ga, L7', acc7, ys7, wipeE e9 own1, rs7, by omega, (s7.trans s8).trans sa, a7, b7, dps_mono (s8.trans sa) _ _ da7, cl7, hz7⟩
    | true =>
      simp only [if_true] at cl7 ⊢
      obtain ⟨⟨oB, eB⟩, q8, cl7⟩ := bind_eq cl7
      obtain ⟨y, q9, cl7⟩ := bind_eq cl7
      obtain ⟨⟨rs', eF2⟩, q10, cl7⟩ := bind_eq cl7
      cases cl7
      refine he e9 oB eB q8 Ga σ9 Ha La _ Ra Sa _ fun Gb vb Hb Lb Lob sb otb Rb Sb => ?_
      obtain ⟨Gc, mc, dc, Sc⟩ := frz_of otb q9 Sb
      have hat : Hb Da = some (.lst acc7) := (Sc.at_ _ (List.mem_append_right _ List.mem_cons_self)).1
      have hlen : acc7.length < sizeLine := by
        have h1 := dps_len da7
        have h2 := congrArg List.length hz7
        simp only [List.length_append, List.length_cons] at h2
        exact Nat.lt_of_le_of_lt (by omega) line_ge
      refine ⟨acc7, hat, hlen, ?_⟩
      have Sd : Sep T Gc (upd Hb Da (.lst (acc7 ++ [vb]))) ((Da, .lst (acc7 ++ [vb])) :: (Lb ++ Lx)) := (Sc.sub (.perm List.perm_middle)).change
      obtain ⟨Le, ae, be⟩ := back (rel_mono mc Rb) (Sd.sub (.perm List.perm_middle.symm))
      exact ⟨Gc, Le, acc7 ++ [vb], ys7 ++ [y], wipeE eB own1, rs', by omega, (((s7.trans s8).trans sa).trans sb).trans mc, ae, be, dps_app (dps_mono (((s8.trans sa).trans sb).trans mc) _ _ da7) (.cons dc .nil), q10, by rw [← hz7]; simp⟩
/-- the tests of a clause: none or one -/
def TVs (X : Cx) (T : TabsT) (ifs : List Expr) (fc : ExB) : Prop := ∃ t : TT, PTs X ifs t ∧ BImp X T fc t
theorem tvs_nil : TVs X T [] bYes := ⟨_, pts_nil, fun env k env' h G σ H L Lx hR hS Q hQ => by
  cases h
  exact hQ G H L (.refl _) hR hS⟩
theorem tvs_one {fc : ExB} (h : BV X T c fc) : TVs X T [c] fc := let ⟨t, p, h⟩ := h; ⟨t, pts_one p, h⟩
theorem blk_t {scope : Scope} {ifs : List Expr} {fe : ExB} (he : ∀ (s : Shared) (H : Hp) (C : Addr) (cl : List (Str × Addr)) (fp : List Addr), TVs (BlkX X scope s H C cl fp) T ifs fe) :
    ∃ te : TT, (∀ (s : Shared) (H : Hp) (C : Addr) (cl : List (Str × Addr)) (fp : List Addr), PTs (BlkX X scope s H C cl fp) ifs te) ∧ BImp X T fe te := by
  refine ⟨fun σ H Q => ∀ (s0 : Shared) (H0 : Hp) (C : Addr) (cl : List (Str × Addr)) (fp : List Addr) (pins : List (Addr × Obj)) (s : Shared), Inv (BlkX X scope s0 H0 C cl fp) pins σ H s →
    wpAny (model X.prog X.w) X.A (forIn ifs true fun c r => if r = true then do let ok ← isTrue c (BlkX X scope s0 H0 C cl fp).env (eval c (BlkX X scope s0 H0 C cl fp).env); pure (ForInStep.yield ok) else pure (ForInStep.yield r)) (TP (BlkX X scope s0 H0 C cl fp) pins σ Q) (BlkX X scope s0 H0 C cl fp).xe s, fun s0 H0 C cl fp => ⟨fun pins s σ H Q I h => h s0 H0 C cl fp pins s I⟩, fun env o env' hf G σ H L Lx hR hS Q hQ s0 H0 C cl fp pins s I => ?_⟩
  obtain ⟨t, p, h⟩ := he s0 H0 C cl fp
  exact p.run pins s σ H Q I (h env o env' hf G σ H L Lx hR hS Q hQ)
/-- [elt for tg in iter if .. for tg1 in iter1 if ..] -/
theorem ev_comp2 {elt tg iter tg1 iter1 : Expr} {ifs ifs1 : List Expr} {scope : Scope} {own : List (Str × Nat)} {own1 : List Nat} {fi fi1 : ExI} {ns ns1 : List Nat} {t t1 : Tg} {fc fc1 : ExB} {fe : Ex} (hc : X.calm = true) (hN : X.N.Nodup) (ok : BlkOk X.N X.env.scope scope own) (hi : IV X T tg iter fi)
    (hg : ∀ (s : Shared) (H : Hp) (C : Addr) (cl : List (Str × Addr)) (fp : List Addr), GV (BlkX X scope s H C cl fp) T tg ns t)
    (ht : ∀ (s : Shared) (H : Hp) (C : Addr) (cl : List (Str × Addr)) (fp : List Addr), TVs (BlkX X scope s H C cl fp) T ifs fc)
    (hi1 : ∀ (s : Shared) (H : Hp) (C : Addr) (cl : List (Str × Addr)) (fp : List Addr), IV (BlkX X scope s H C cl fp) T tg1 iter1 fi1)
    (hg1 : ∀ (s : Shared) (H : Hp) (C : Addr) (cl : List (Str × Addr)) (fp : List Addr), GV (BlkX X scope s H C cl fp) T tg1 ns1 t1)
    (ht1 : ∀ (s : Shared) (H : Hp) (C : Addr) (cl : List (Str × Addr)) (fp : List Addr), TVs (BlkX X scope s H C cl fp) T ifs1 fc1)
    (he : ∀ (s : Shared) (H : Hp) (C : Addr) (cl : List (Str × Addr)) (fp : List Addr), EV (BlkX X scope s H C cl fp) T elt fe)
    (hns : ∀ j ∈ ns, j ∈ own.map (·.2) := by decide) (hnd : (own.map (·.2)).Nodup := by decide) (hns1 : ∀ j ∈ ns1, j ∈ own1 := by decide) (hsub : ∀ j ∈ own1, j ∈ own.map (·.2) := by decide) (hs : ∀ x, foldedSetIterable iter X.env x = pure x := by intro _; rfl) (hs1 : ∀ env x, foldedSetIterable iter1 env x = pure x := by intro _ _; rfl) :
    EV X T (.ListComp elt [⟨tg, iter, ifs, 0⟩, ⟨tg1, iter1, ifs1, 0⟩] scope pos) (eComp2 (own.map (·.2)) own1 fi t fc fi1 t1 fc1 fe) := by
  obtain ⟨wi, pi, hi⟩ := hi
  obtain ⟨g, pg, hg⟩ := blk_g hg
  obtain ⟨tt, pt, ht⟩ := blk_t ht
  obtain ⟨wi1, pi1, hi1⟩ := blk_i hi1
  obtain ⟨g1, pg1, hg1⟩ := blk_g hg1
  obtain ⟨tt1, pt1, ht1⟩ := blk_t ht1
  obtain ⟨te, pe, he⟩ := blk_e he
  exact ⟨_, pe_lc2 hc hN pi ok hsub pg pt pi1 pg1 pt1 pe hs hs1, fun env o env' hf G σ H L Lx hR hS Q hQ => comp2_core hns hnd hns1 hsub hi hg ht hi1 hg1 ht1 he hf hR hS hQ⟩
theorem setc2_imp {f : Ex} {i : Nat} {te : TE} (hl : lk i = false) (frzd : Bool)
    (h : ∀ {env env' : Ev} {o : O}, f env = some (o, env') → ∀ {G : Hp} {σ : St} {H : Hp} {L Lx : List Cell}, RelS X.K G env σ L → Sep T G H (L ++ Lx) → ∀ {Q : VK}, PostE X T Lx G σ o env' Q → te σ H Q) :
    SImp X T lk (if frzd then sSetF i f else sSet i f) (tAsg te (gName i)) := by
  intro env r hf G σ H L Lx hR hS D hD
  cases frzd with
  | false =>
    simp only [Bool.false_eq_true, if_false] at hf
    unfold sSet at hf
    obtain ⟨⟨o, env1⟩, e1, hf⟩ := bind_eq hf
    cases hf
    refine h e1 hR hS fun G1 v H1 L1 Lo s1 ot R1 S1 => ?_
    obtain ⟨L', q1, q2⟩ := rel_put (j := i) R1 ot
    exact hD G1 (σ.set i (some v)) H1 L' s1 (lk_set hl) q1 (S1.sub (by rw [← List.append_assoc]; exact q2.right))
  | true =>
    simp only [if_true] at hf
    unfold sSetF at hf
    obtain ⟨⟨o, env1⟩, e1, hf⟩ := bind_eq hf
    obtain ⟨y, e2, hf⟩ := bind_eq hf
    cases hf
    refine h e1 hR hS fun G1 v H1 L1 Lo s1 ot R1 S1 => ?_
    obtain ⟨G2, m2, d2, S2⟩ := frz_of ot e2 S1
    obtain ⟨L', q1, q2⟩ := rel_put (j := i) (rel_mono m2 R1) (.d d2)
    exact hD G2 (σ.set i (some v)) H1 L' (s1.trans m2) (lk_set hl) q1 (S2.sub (Sub.right (by simpa using q2)))
/-- y = [..], y a local -/
theorem sv_setC2 {y : Str} {py spos : Pos} {elt tg iter tg1 iter1 : Expr} {ifs ifs1 : List Expr} {scope : Scope} {own : List (Str × Nat)} {own1 : List Nat} {fi fi1 : ExI} {ns ns1 : List Nat} {t t1 : Tg} {fc fc1 : ExB} {fe : Ex} (i : Nat) (frzd : Bool) (hc : X.calm = true) (hN : X.N.Nodup) (ok : BlkOk X.N X.env.scope scope own) (hi : IV X T tg iter fi)
    (hg : ∀ (s : Shared) (H : Hp) (C : Addr) (cl : List (Str × Addr)) (fp : List Addr), GV (BlkX X scope s H C cl fp) T tg ns t)
    (ht : ∀ (s : Shared) (H : Hp) (C : Addr) (cl : List (Str × Addr)) (fp : List Addr), TVs (BlkX X scope s H C cl fp) T ifs fc)
    (hi1 : ∀ (s : Shared) (H : Hp) (C : Addr) (cl : List (Str × Addr)) (fp : List Addr), IV (BlkX X scope s H C cl fp) T tg1 iter1 fi1)
    (hg1 : ∀ (s : Shared) (H : Hp) (C : Addr) (cl : List (Str × Addr)) (fp : List Addr), GV (BlkX X scope s H C cl fp) T tg1 ns1 t1)
    (ht1 : ∀ (s : Shared) (H : Hp) (C : Addr) (cl : List (Str × Addr)) (fp : List Addr), TVs (BlkX X scope s H C cl fp) T ifs1 fc1)
    (he : ∀ (s : Shared) (H : Hp) (C : Addr) (cl : List (Str × Addr)) (fp : List Addr), EV (BlkX X scope s H C cl fp) T elt fe)
    (hy : X.N[i]? = some y := by rfl) (hyl : X.env.scope.names.lookup y = some .local := by rfl) (hl : lk i = false := by rfl) (hsw : swapsWith (.ListComp elt [⟨tg, iter, ifs, 0⟩, ⟨tg1, iter1, ifs1, 0⟩] scope pos) (some (.Name y py)) spos.line X.env = pure true := by exact sw_true rfl rfl rfl (by decide +kernel))
    (hns : ∀ j ∈ ns, j ∈ own.map (·.2) := by decide) (hnd : (own.map (·.2)).Nodup := by decide) (hns1 : ∀ j ∈ ns1, j ∈ own1 := by decide) (hsub : ∀ j ∈ own1, j ∈ own.map (·.2) := by decide) (hs : ∀ x, foldedSetIterable iter X.env x = pure x := by intro _; rfl) (hs1 : ∀ env x, foldedSetIterable iter1 env x = pure x := by intro _ _; rfl) :
    SV X T lk (.Assign [.Name y py] (.ListComp elt [⟨tg, iter, ifs, 0⟩, ⟨tg1, iter1, ifs1, 0⟩] scope pos) spos) (if frzd then sSetF i (eComp2 (own.map (·.2)) own1 fi t fc fi1 t1 fc1 fe) else sSet i (eComp2 (own.map (·.2)) own1 fi t fc fi1 t1 fc1 fe)) := by
  obtain ⟨wi, pi, hi⟩ := hi
  obtain ⟨g, pg, hg⟩ := blk_g hg
  obtain ⟨tt, pt, ht⟩ := blk_t ht
  obtain ⟨wi1, pi1, hi1⟩ := blk_i hi1
  obtain ⟨g1, pg1, hg1⟩ := blk_g hg1
  obtain ⟨tt1, pt1, ht1⟩ := blk_t ht1
  obtain ⟨te, pe, he⟩ := blk_e he
  exact ⟨_, ps_setLc2 hc hN hy hyl hsw pi ok hsub pg pt pi1 pg1 pt1 pe hs hs1, setc2_imp hl frzd fun {env env' o} hf {G σ H L Lx} hR hS {Q} hQ => comp2_core hns hnd hns1 hsub hi hg ht hi1 hg1 ht1 he hf hR hS hQ⟩
end
end Sh

/-! Shift layer: owned lists of owned lists. -/
namespace Sh
open PySem PySem.Spec PyProof.Rows L2
/-- an index that touches nothing -/
abbrev ExK := Ev → Option Int
@[simp] def kVar (j : Nat) : ExK := fun e => (slot e j).bind oInt
@[simp] def kInt (i : Int) : ExK := fun _ => some i
def KV (X : Cx) (T : TabsT) (e : Expr) (f : ExK) : Prop := ∃ t : TE, PE X e t ∧ ∀ (env : Ev) (i : Int), f env = some i → ∀ (G : Hp) (σ : St) (H : Hp) (L : List Cell), RelS X.K G env σ L → ∀ Q : VK, Q (.int i) H → t σ H Q
@[simp] def oGr : O → Option (List (List D))
  | .l [] => some []
  | .g rows => some rows
  | _ => none
/-- x.append(v), v a new list -/
@[simp] def sAppG (j : Nat) (v : Ex) : Sx := fun e => (slot e j).bind fun o0 => (oGr o0).bind fun _ => (v e).bind fun p => (slot p.2 j).bind fun o => (oGr o).bind fun rows =>
  (oOwn p.1).bind fun xs => if rows.length < 1000000 then some (.nx (p.2.set j (some (.g (rows ++ [xs]))))) else none
/-- x[i][k] -/
@[simp] def eItem2 (j : Nat) (i k : ExK) : Ex := fun e => (slot e j).bind fun o => (oGr o).bind fun rows => (i e).bind fun a => (k e).bind fun b =>
  (L2.atI rows a).bind fun xs => (L2.atI xs b).bind fun z => some (.d z, e)
/-- the grid with one cell changed -/
@[simp] def gPut (rows : List (List D)) (a b : Int) (y : D) : Option (List (List D)) := (L2.ixN rows.length a).bind fun n => (rows[n]?).bind fun xs => (L2.ixN xs.length b).bind fun m => some (rows.set n (xs.set m y))
/-- x[i][k] = v -/
@[simp] def sSub2 (j : Nat) (i k : ExK) (v : Ex) : Sx := fun e => (v e).bind fun p => (frz p.1).bind fun y => (slot p.2 j).bind fun o => (oGr o).bind fun rows => (i p.2).bind fun a => (k p.2).bind fun b =>
  (gPut rows a b y).bind fun rows' => some (.nx (p.2.set j (some (.g rows'))))
section
variable {X : Cx} {T : TabsT} {lk : Nat → Bool} {a b c e : Expr} {pos : Pos}
theorem kv_var {x : Str} (j : Nat) (hN : X.N[j]? = some x := by rfl) (hv : Vis X.env.scope x := by first | exact Or.inl rfl | exact Or.inr (Or.inl rfl) | exact Or.inr (Or.inr rfl)) (hd : (x == ("__debug__" : Str)) = false := by decide)
    (hcd : (x == ("__classdict__" : Str)) = false := by decide) : KV X T (.Name x pos) (kVar j) := by
  refine ⟨tVar j, pe_var hN hv hd hcd, fun env i hf G σ H L hR Q hQ => ?_⟩
  unfold kVar at hf
  obtain ⟨o, h, hf⟩ := bind_eq hf
  obtain ⟨v, c, h1, h2, h3⟩ := rel_get hR h
  obtain ⟨rfl, rfl, rfl⟩ := int_of h2 hf
  exact ⟨_, h1, hQ⟩
theorem kv_int {i j} : KV X T (.Constant (.int i) j pos) (kInt i) := ⟨_, pe_int, fun env k hf G σ H L hR Q hQ => by
  cases hf
  exact hQ⟩
section
variable {K : PySem.W.Frag} {G G' H : Hp} {L : List Cell}
theorem gr_of {o : O} {rows : List (List D)} {v : V} {c : List Cell} (h : OT K G o v c) (e : oGr o = some rows) : ∃ p vs c', v = .ref p ∧ c = (p, .lst vs) :: c' ∧ RowsR K G rows vs c' := by
  cases h with
  | d h => cases e
  | @l xs p vs h =>
    cases h with
    | nil =>
      cases e
      exact ⟨p, [], [], rfl, rfl, .nil⟩
    | cons _ _ => cases e
  | m h => cases e
  | k _ _ => cases e
  | @g _ p vs c h =>
    cases e
    exact ⟨p, vs, c, rfl, rfl, h⟩
theorem rows_get : ∀ {rows : List (List D)} {vs : List V} {c : List Cell} {n : Nat} {xs : List D}, RowsR K G rows vs c → rows[n]? = some xs → ∃ q ws c', vs[n]? = some (.ref q) ∧ DqAll K G ws xs ∧ c.Perm ((q, .lst ws) :: c') ∧
    ∀ ws' xs', DqAll K G ws' xs' → ∃ c'', RowsR K G (rows.set n xs') vs c'' ∧ c''.Perm ((q, .lst ws') :: c')
  | _, _, _, _, _, .nil, e => by simp at e
  | _, _, _, 0, _, .cons (xs := ys) (ws := ws) (q := q) (c := c) d hr, e => by
    simp at e
    subst e
    exact ⟨q, ws, c, rfl, d, .refl _, fun ws' xs' d' => ⟨_, .cons d' hr, .refl _⟩⟩
  | _, _, _, n + 1, xs, .cons (ws := ws0) (q := q0) (c := c) d hr, e => by
    obtain ⟨q, ws, c', h1, h2, h3, h4⟩ := rows_get (n := n) (xs := xs) hr (by simpa using e)
    refine ⟨q, ws, (q0, .lst ws0) :: c', by simpa using h1, h2, (h3.cons _).trans (.swap ..), fun ws' xs' d' => ?_⟩
    obtain ⟨c'', g1, g2⟩ := h4 ws' xs' d'
    exact ⟨_, .cons d g1, (g2.cons _).trans (.swap ..)⟩
theorem rows_app {rows : List (List D)} {vs : List V} {c : List Cell} {xs : List D} {ws : List V} {q : Addr} (h : RowsR K G rows vs c) (d : DqAll K G ws xs) : RowsR K G (rows ++ [xs]) (vs ++ [.ref q]) (c ++ [(q, .lst ws)]) := by
  induction h with
  | nil => exact .cons d .nil
  | cons d' _ ih => exact .cons d' ih
theorem atI_at {α : Type} {xs : List α} {i : Int} {z : α} (e : L2.atI xs i = some z) : ∃ n, L2.ixN xs.length i = some n ∧ xs[n]? = some z := by
  unfold L2.atI at e
  obtain ⟨j, e1, e2⟩ := bind_eq e
  exact ⟨j, e1, e2⟩
theorem at_atI {α : Type} {xs : List α} {i : Int} {z : α} {n : Nat} (e : L2.ixN xs.length i = some n) (e2 : xs[n]? = some z) : L2.atI xs i = some z := by
  unfold L2.atI
  rw [e]
  exact e2
end
theorem ev_item2 {x : Str} {i k : Expr} {p1 p2 : Pos} {fi fk : ExK} (j : Nat) (hi : KV X T i fi) (hk : KV X T k fk) (hN : X.N[j]? = some x := by rfl) (hvis : Vis X.env.scope x := by first | exact Or.inl rfl | exact Or.inr (Or.inl rfl) | exact Or.inr (Or.inr rfl)) (hd : (x == ("__debug__" : Str)) = false := by decide)
    (hcd : (x == ("__classdict__" : Str)) = false := by decide) (hs1 : PlainIx i := by exact fun _ _ => rfl) (hs2 : PlainIx k := by exact fun _ _ => rfl) : EV X T (.Subscript (.Subscript (.Name x p1) i p2) k pos) (eItem2 j fi fk) := by
  obtain ⟨ti, pi, hi⟩ := hi
  obtain ⟨tk, pk, hk⟩ := hk
  refine ⟨_, pe_ix canI_ok (pe_ix canI_ok (pe_var hN hvis hd hcd) pi hs1) pk hs2, fun env o env' hf G σ H L Lx hR hS Q hQ => ?_⟩
  unfold eItem2 at hf
  obtain ⟨o0, e0, hf⟩ := bind_eq hf
  obtain ⟨rows, e1, hf⟩ := bind_eq hf
  obtain ⟨ai, e2, hf⟩ := bind_eq hf
  obtain ⟨bi, e3, hf⟩ := bind_eq hf
  obtain ⟨xs, e4, hf⟩ := bind_eq hf
  obtain ⟨z, e5, hf⟩ := bind_eq hf
  cases hf
  obtain ⟨v, c, h1, h2, h3⟩ := rel_get hR e0
  obtain ⟨p, vs, c', rfl, rfl, hr⟩ := gr_of h2 e1
  obtain ⟨n, f1, f2⟩ := atI_at e4
  obtain ⟨q, ws, c2, g1, g2, g3, _⟩ := rows_get hr f2
  obtain ⟨vz, y1, y2⟩ := at_of g2 e5
  have hp : H p = some (.lst vs) := (hS.at_ _ (List.mem_append_left _ (h3 _ List.mem_cons_self))).1
  have hq : H q = some (.lst ws) := (hS.at_ (q, .lst ws) (List.mem_append_left _ (h3 _ (List.mem_cons_of_mem _ (g3.mem_iff.mpr List.mem_cons_self))))).1
  refine ⟨.ref p, h1, hi env ai e2 G σ H L hR _ ?_⟩
  intro value slice pins s σ' v' u' I rx ry hs'
  refine ix_list value slice pins s σ' H _ _ v' u' _ I rx ry ⟨p, vs, ai, .ref q, rfl, rfl, .inl (.inl hp), at_atI (by rw [rows_len hr]; exact f1) g1, ?_⟩ hs'
  refine hk env bi e3 G σ H L hR _ ?_
  intro value slice pins s σ' v' u' I rx ry hs'
  exact ix_list value slice pins s σ' H _ _ v' u' _ I rx ry ⟨q, ws, bi, vz, rfl, rfl, .inl (.inl hq), y1, hQ G vz H L [] (.refl _) (.d y2) hR hS⟩ hs'
theorem sv_sub2 {x : Str} {i k v : Expr} {p1 p2 p3 : Pos} {fi fk : ExK} {fv : Ex} (j : Nat) (hv : EV X T v fv) (hi : KV X T i fi) (hk : KV X T k fk) (hN : X.N[j]? = some x := by rfl) (hvis : Vis X.env.scope x := by first | exact Or.inl rfl | exact Or.inr (Or.inl rfl) | exact Or.inr (Or.inr rfl)) (hd : (x == ("__debug__" : Str)) = false := by decide)
    (hcd : (x == ("__classdict__" : Str)) = false := by decide) (hs1 : PlainIx i := by exact fun _ _ => rfl) (hs : swapsWithSole [.Subscript (.Subscript (.Name x p1) i p2) k p3] v pos.line X.env = pure false := by rfl) (hw : swappedStores [.Subscript (.Subscript (.Name x p1) i p2) k p3] v X.env = pure none := by rfl)
    (hps : ∀ {to ti : TE} {t : TSet}, PE X (.Subscript (.Name x p1) i p2) to → PE X k ti → PSet X t → PG X (.Subscript (.Subscript (.Name x p1) i p2) k p3) (L2.gSub to ti t) := by exact fun h1 h2 h3 => pg_sub h1 h2 h3) :
    SV X T lk (.Assign [.Subscript (.Subscript (.Name x p1) i p2) k p3] v pos) (sSub2 j fi fk fv) := by
  obtain ⟨tv, pv', h1⟩ := hv
  obtain ⟨ti, pi, hi⟩ := hi
  obtain ⟨tk, pk, hk⟩ := hk
  refine ⟨_, ps_asg pv' (hps (pe_ix canI_ok (pe_var hN hvis hd hcd) pi hs1) pk set_list) hs hw, fun env r hf G σ H L Lx hR hS D hD => ?_⟩
  unfold sSub2 at hf
  obtain ⟨⟨o1, env1⟩, e1, hf⟩ := bind_eq hf
  obtain ⟨y, ey, hf⟩ := bind_eq hf
  obtain ⟨o0, e0, hf⟩ := bind_eq hf
  obtain ⟨rows, er, hf⟩ := bind_eq hf
  obtain ⟨ai, e2, hf⟩ := bind_eq hf
  obtain ⟨bi, e3, hf⟩ := bind_eq hf
  obtain ⟨rows', e4, hf⟩ := bind_eq hf
  cases hf
  unfold gPut at e4
  obtain ⟨n, f1, e4⟩ := bind_eq e4
  obtain ⟨xs, f2, e4⟩ := bind_eq e4
  obtain ⟨m, f3, e4⟩ := bind_eq e4
  cases e4
  refine h1 env o1 env1 e1 G σ H L Lx hR hS _ fun G1 v1 H1 L1 Lo1 s1 ot1 R1 S1 => ?_
  obtain ⟨G3, m3, d3, S3⟩ := frz_of ot1 ey S1
  have R3 := rel_mono m3 R1
  obtain ⟨v0, c0, L3, g1, g2, g3, g4⟩ := rel_take R3 e0
  obtain ⟨p, vs, c', rfl, rfl, hr⟩ := gr_of g2 er
  obtain ⟨q, ws, c2, w1, w2, w3, w4⟩ := rows_get hr f2
  have S4 : Sep T G3 H1 ((q, .lst ws) :: ((p, .lst vs) :: c2 ++ (L3 ++ Lx))) := by
    refine S3.sub (.perm ((g3.append_right Lx).trans ?_))
    rw [List.append_assoc, List.cons_append, List.cons_append]
    exact ((w3.append_right _).cons _).trans (.swap ..)
  have hp : H1 p = some (.lst vs) := (S4.at_ (p, .lst vs) (by simp)).1
  have hq : H1 q = some (.lst ws) := (S4.at_ (q, .lst ws) (by simp)).1
  refine ⟨.ref p, g1, hi env1 ai e2 G3 σ H1 L1 R3 _ ?_⟩
  intro value slice pins s σ' v' u' I rx ry hs'
  refine ix_list value slice pins s σ' H1 _ _ v' u' _ I rx ry ⟨p, vs, ai, .ref q, rfl, rfl, .inl (.inl hp), at_atI (by rw [rows_len hr]; exact f1) w1, ?_⟩ hs'
  refine hk env1 bi e3 G3 σ H1 L1 R3 _ ?_
  refine ⟨q, ws, bi, m, rfl, rfl, hq, by rw [dps_len w2]; exact f3, ?_⟩
  have S5 := S4.change (o' := .lst (ws.set m v1))
  obtain ⟨c3, z1, z2⟩ := w4 (ws.set m v1) (xs.set m y) (dps_set m w2 d3)
  obtain ⟨L', q1, q2⟩ := rel_put_at g4 slot_set_same g1 (.g z1)
  rw [List.set_set] at q1
  refine hD G3 σ _ L' (s1.trans m3) (fun _ _ => rfl) q1 (S5.sub (.perm ?_))
  refine List.Perm.trans ?_ (q2.append_right Lx).symm
  rw [List.append_assoc, List.cons_append, List.cons_append]
  exact List.Perm.trans (.swap ..) (((z2.append_right (L3 ++ Lx)).symm).cons _)
/-- x.append(v), v a new list -/
theorem sv_appG {x : Str} {v : Expr} {p1 p2 p3 : Pos} {fv : Ex} (j : Nat) (hv : EV X T v fv) (hN : X.N[j]? = some x := by rfl) (hvis : Vis X.env.scope x := by first | exact Or.inl rfl | exact Or.inr (Or.inl rfl) | exact Or.inr (Or.inr rfl)) (hd : (x == ("__debug__" : Str)) = false := by decide)
    (hcd : (x == ("__classdict__" : Str)) = false := by decide) (hs1 : starEach [v] X.env = (false, eval v X.env) :: starEach [] X.env := by rfl)
    (hp : ∀ {to : TE} {t : TA}, PE X (.Name x p1) to → PA X [v] t → PE X (.Call (.Attribute (.Name x p1) "append" p2) [v] [] p3) (tBM X.K "list" rAppend to t) := by exact fun h1 h2 => pe_bm PySem.F.plainAttrs_list PySem.F.slot_list_append PySem.F.type_list_append mt_append h1 h2)
    (hs : swapsWith (.Call (.Attribute (.Name x p1) "append" p2) [v] [] p3) none pos.line X.env = pure false := by rfl) : SV X T lk (.Expr (.Call (.Attribute (.Name x p1) "append" p2) [v] [] p3) pos) (sAppG j fv) := by
  obtain ⟨tv, pv', h1⟩ := hv
  refine ⟨_, ps_expr (hp (pe_var hN hvis hd hcd) (pa_cons pv' pa_nil hs1)) hs, fun env r hf G σ H L Lx hR hS D hD => ?_⟩
  unfold sAppG at hf
  obtain ⟨o0, e0, hf⟩ := bind_eq hf
  obtain ⟨xs0, e00, hf⟩ := bind_eq hf
  obtain ⟨⟨o1, env1⟩, e1, hf⟩ := bind_eq hf
  obtain ⟨o3, e3, hf⟩ := bind_eq hf
  obtain ⟨rows, e4, hf⟩ := bind_eq hf
  obtain ⟨y, e5, hf⟩ := bind_eq hf
  split at hf
  · rename_i hl
    cases hf
    obtain ⟨v0, c0, g1, g2, g3⟩ := rel_get hR e0
    obtain ⟨p, vs0, c0', rfl, rfl, hr0⟩ := gr_of g2 e00
    refine ⟨.ref p, g1, .inl ⟨rfl, _, .inl (.inl (hS.at_ _ (List.mem_append_left _ (g3 _ List.mem_cons_self))).1)⟩, ?_⟩
    refine h1 env o1 env1 e1 G σ H L Lx hR hS _ fun G1 v1 H1 L1 Lo1 s1 ot1 R1 S1 => ?_
    obtain ⟨v3, c3, L3, f1, f2, f3, f4⟩ := rel_take R1 e3
    rw [g1] at f1
    cases f1
    obtain ⟨p', vs, c', ep, rfl, hr⟩ := gr_of f2 e4
    cases ep
    have ey := oOwn_eq e5
    subst ey
    cases ot1 with
    | @l _ q ws dw =>
      have S4 : Sep T G1 H1 ((p, .lst vs) :: ((q, .lst ws) :: c' ++ (L3 ++ Lx))) := by
        refine S1.sub (.perm ?_)
        refine (((f3.append_right Lx).append_left _).trans ?_)
        simp only [List.append_assoc, List.cons_append, List.nil_append]
        exact .swap ..
      refine ⟨p, vs, .ref q, rfl, rfl, (S4.at_ _ List.mem_cons_self).1, by rw [rows_len hr]; exact Nat.lt_trans hl line_ge, ?_⟩
      have S5 := S4.change (o' := .lst (vs ++ [.ref q]))
      obtain ⟨L', q1, q2⟩ := rel_put_at f4 slot_set_same g1 (.g (rows_app (q := q) hr dw))
      rw [List.set_set] at q1
      refine hD G1 σ _ L' s1 (fun _ _ => rfl) q1 (S5.sub (.perm ?_))
      refine List.Perm.trans ?_ (q2.append_right Lx).symm
      simp only [List.append_assoc, List.cons_append, List.nil_append]
      refine List.Perm.cons _ ?_
      exact (List.perm_middle (a := (q, HO.lst ws)) (l₁ := c') (l₂ := L3 ++ Lx)).symm
  · cases hf
end
end Sh

/-! Shift layer 8: several targets at once. -/
namespace Sh
open PySem PySem.Spec PyProof.Rows L2
section
variable {X : Cx} {T : TabsT} {lk : Nat → Bool} {a b c e : Expr} {pos : Pos} {st : Stmt} {rest sts sts2 : List Stmt} {es : List Expr}
theorem ev_fr {f : Ex} (he : EV X T e f) : EV X T e (eFr f) := by
  obtain ⟨t, p, h⟩ := he
  refine ⟨t, p, fun env o env' hf G σ H L Lx hR hS Q hQ => ?_⟩
  unfold eFr at hf
  obtain ⟨⟨o1, env1⟩, e1, hf⟩ := bind_eq hf
  obtain ⟨y, e2, hf⟩ := bind_eq hf
  cases hf
  refine h env o1 env1 e1 G σ H L Lx hR hS _ fun G1 v H1 L1 Lo s1 ot R1 S1 => ?_
  obtain ⟨G2, m2, d2, S2⟩ := frz_of ot e2 S1
  exact hQ G2 v H1 L1 [] (s1.trans m2) (.d d2) (rel_mono m2 R1) S2
def GO (X : Cx) (T : TabsT) (lk : Nat → Bool) (tg : Expr) (t : TgO) : Prop := ∃ g : TG, PG X tg g ∧ ∀ (o : O) (env env' : Ev), t o env = some env' → ∀ (G : Hp) (σ : St) (H : Hp) (L Lx : List Cell) (v : V) (c : List Cell), OT X.K G o v c → RelS X.K G env σ L → Sep T G H (c ++ (L ++ Lx)) →
  ∀ Q : St → Hp → Prop, (∀ (G' : Hp) (σ' : St) (H' : Hp) (L' : List Cell), Same G G' → (∀ i, lk i = true → σ'[i]? = σ[i]?) → RelS X.K G' env' σ' L' → Sep T G' H' (L' ++ Lx) → Q σ' H') → g v σ H Q
def GOs (X : Cx) (T : TabsT) (lk : Nat → Bool) (tgs : List Expr) (ts : List TgO) : Prop := ∃ g : TGs, PGs X tgs g ∧ ∀ (os : List O) (env env' : Ev), asgAll ts os env = some env' → ∀ (G : Hp) (σ σ0 : St) (H : Hp) (L Lx : List Cell) (vs : List V) (own : List (Option Nat)) (e0 : Ev) (Lo : List Cell), ArgR X.K G σ0 e0 own os vs Lo → (∀ x ∈ own, x = none) → RelS X.K G env σ L → Sep T G H (Lo ++ (L ++ Lx)) →
  ∀ Q : St → Hp → Prop, (∀ (G' : Hp) (σ' : St) (H' : Hp) (L' : List Cell), Same G G' → (∀ i, lk i = true → σ'[i]? = σ[i]?) → RelS X.K G' env' σ' L' → Sep T G' H' (L' ++ Lx) → Q σ' H') → g vs σ H Q
theorem go_name {x : Str} (i : Nat) (hN : X.N.Nodup) (hi : X.N[i]? = some x := by rfl) (hl : lk i = false := by rfl) (hx : Loc X.env.scope x := by first | exact Or.inl rfl | exact Or.inr rfl) (hf : X.fn x = true ∨ X.env.scope.names.lookup x = some .local := by first | exact .inl rfl | exact .inr rfl) : GO X T lk (.Name x pos) (oName i) := by
  refine ⟨gName i, pg_name hN hi hx hf, fun o env env' ht G σ H L Lx v c ot hR hS Q hQ => ?_⟩
  cases ht
  obtain ⟨L', a, b⟩ := rel_put (j := i) hR ot
  exact hQ G _ H L' (.refl _) (lk_set hl) a (hS.sub (by rw [← List.append_assoc]; exact b.right))
theorem go_tg {tg : Expr} {ns : List Nat} {t : Tg} (h : GV X T tg ns t) (hl : ∀ j ∈ ns, lk j = false := by decide) : GO X T lk tg (oTg t) := by
  obtain ⟨g, p, h⟩ := h
  refine ⟨g, p, fun o env env' ht G σ H L Lx v c ot hR hS Q hQ => ?_⟩
  unfold oTg at ht
  obtain ⟨y, e2, ht⟩ := bind_eq ht
  obtain ⟨G2, m2, d2, S2⟩ := frz_of ot e2 hS
  exact h y env env' ht G2 σ H L Lx v d2 (rel_mono m2 hR) S2 Q fun σ' L' k l R S => hQ G2 σ' H L' m2 (fun i hi => k i fun z => by
    rw [hl i z] at hi
    cases hi) R S
theorem go_sub {x : Str} {i : Expr} {p1 p2 : Pos} {fi : Ex} (j : Nat) (hi : EV X T i fi) (hN : X.N[j]? = some x := by rfl) (hvis : Vis X.env.scope x := by first | exact Or.inl rfl | exact Or.inr (Or.inl rfl) | exact Or.inr (Or.inr rfl)) (hd : (x == ("__debug__" : Str)) = false := by decide)
    (hcd : (x == ("__classdict__" : Str)) = false := by decide)
    (hps : ∀ {to ti : TE} {t : TSet}, PE X (.Name x p1) to → PE X i ti → PSet X t → PG X (.Subscript (.Name x p1) i p2) (L2.gSub to ti t) := by exact fun h1 h2 h3 => pg_sub h1 h2 h3) : GO X T lk (.Subscript (.Name x p1) i p2) (oSub j fi) := by
  obtain ⟨ti, pi, h2⟩ := hi
  refine ⟨_, hps (pe_var hN hvis hd hcd) pi set_list, fun o env env' hf G σ H L Lx v c ot hR hS Q hQ => ?_⟩
  unfold oSub at hf
  obtain ⟨o0, e0, hf⟩ := bind_eq hf
  obtain ⟨⟨o2, env2⟩, e2, hf⟩ := bind_eq hf
  obtain ⟨o3, e3, hf⟩ := bind_eq hf
  obtain ⟨xs, e4, hf⟩ := bind_eq hf
  obtain ⟨y, e5, hf⟩ := bind_eq hf
  obtain ⟨k, e6, hf⟩ := bind_eq hf
  obtain ⟨n, e7, hf⟩ := bind_eq hf
  cases hf
  obtain ⟨v0, c0, g1, g2, g3⟩ := rel_get hR e0
  refine ⟨v0, g1, ?_⟩
  refine h2 env o2 env2 e2 G σ H L (c ++ Lx) hR hS.comm3 _ fun G2 v2 H2 L2 Lo2 s2 ot2 R2 S2 => ?_
  obtain ⟨rfl, rfl, rfl⟩ := int_of ot2 e6
  have S2' : Sep T G2 H2 (c ++ (L2 ++ Lx)) := Sep.comm3 S2
  obtain ⟨G3, m3, d3, S3⟩ := frz_of (ot_mono s2 ot) e5 S2'
  have ex := oOwn_eq e4
  subst ex
  obtain ⟨v3, c3, L3, f1, f2, f3, f4⟩ := rel_take R2 e3
  rw [g1] at f1
  cases f1
  cases f2 with
  | @l _ p vs dv =>
    have S4 : Sep T G3 H2 ((p, .lst vs) :: (L3 ++ Lx)) := S3.sub (.perm (by simpa using f3.append_right Lx))
    refine ⟨p, vs, k, n, rfl, rfl, (S4.at_ _ List.mem_cons_self).1, by rw [dps_len dv]; exact e7, ?_⟩
    have S5 := S4.change (o' := .lst (vs.set n v))
    obtain ⟨L', q1, q2⟩ := rel_put_at (rel_mono m3 f4) slot_set_same g1 (.l (dps_set n (dps_mono m3 _ _ dv) d3))
    rw [List.set_set] at q1
    exact hQ G3 σ _ L' (s2.trans m3) (fun _ _ => rfl) q1 (S5.sub (.perm (by simpa using (q2.append_right Lx).symm)))
theorem gos_nil : GOs X T lk [] [] := by
  refine ⟨_, pgs_nil, fun os env env' ht G σ σ0 H L Lx vs own e0 Lo ar hn hR hS Q hQ => ?_⟩
  cases ar with
  | nil =>
    cases ht
    exact ⟨rfl, hQ G σ H L (.refl _) (fun _ _ => rfl) hR hS⟩
  | v _ _ => cases ht
  | s _ _ _ => cases ht
theorem gos_cons {tgs : List Expr} {t : TgO} {ts : List TgO} (h : GO X T lk a t) (h2 : GOs X T lk tgs ts) (hs : (assignEach (a :: tgs) X.env).map (·.2) = assign a X.env :: (assignEach tgs X.env).map (·.2) := by rfl) : GOs X T lk (a :: tgs) (t :: ts) := by
  obtain ⟨g, p, h⟩ := h
  obtain ⟨g2, p2, h2⟩ := h2
  refine ⟨_, pgs_cons p p2 hs, fun os env env' ht G σ σ0 H L Lx vs own e0 Lo ar hn hR hS Q hQ => ?_⟩
  cases ar with
  | nil => cases ht
  | @v o v c own os vs Lo ot ar =>
    unfold asgAll at ht
    obtain ⟨env1, e1, ht⟩ := bind_eq ht
    refine ⟨v, vs, rfl, ?_⟩
    have S0 : Sep T G H (c ++ (L ++ (Lo ++ Lx))) := hS.sub (.perm (by
      rw [List.append_assoc]
      exact (List.perm_append_comm_assoc Lo L Lx).append_left c))
    refine h o env env1 e1 G σ H L (Lo ++ Lx) v c ot hR S0 _ fun G1 σ1 H1 L1 m1 k1 R1 S1 => ?_
    refine h2 os env1 env' ht G1 σ1 σ0 H1 L1 Lx vs own e0 Lo (ar.mono m1) (fun x hx => hn x (List.mem_cons_of_mem _ hx)) R1 S1.comm3 _ fun G2 σ2 H2 L2 m2 k2 R2 S2 => ?_
    exact hQ G2 σ2 H2 L2 (m1.trans m2) (fun i hi => (k2 i hi).trans (k1 i hi)) R2 S2
  | s _ _ _ =>
    have := hn _ List.mem_cons_self
    cases this
/-- t1, t2, .. = a1, a2, .. -/
theorem sv_parN {tgs : List Expr} {k1 k2 : Nat} {p1 p2 : Pos} {ts : List TgO} {own : List (Option Nat)} {fas : ExA} {n : Nat} (hc : X.calm = true) (ha : AV X T es own fas) (hg : GOs X T lk tgs ts) (hn : ∀ x ∈ own, x = none := by decide) (hl : own.length = n := by rfl)
    (ht : ∀ (g : TGs), PGs X tgs g → PG X (.Tuple tgs k1 p1) (gTup X.K n g)) (hsz : n ≤ sizeLine := by decide)
    (hs : swapsWithSole [.Tuple tgs k1 p1] (.Tuple es k2 p2) pos.line X.env = pure false := by rfl) (hw : swappedStores [.Tuple tgs k1 p1] (.Tuple es k2 p2) X.env = pure none := by rfl)
    (ha1 : (assignEach [.Tuple tgs k1 p1] X.env).map (·.2) = [assign (.Tuple tgs k1 p1) X.env] := by rfl) : SV X T lk (.Assign [.Tuple tgs k1 p1] (.Tuple es k2 p2) pos) (sParN ts fas) := by
  obtain ⟨ta, pa, h⟩ := ha
  obtain ⟨g, pg, hg⟩ := hg
  refine ⟨_, ps_asg (pe_tup pa) (ht g pg) hs hw ha1, fun env r hf G σ H L Lx hR hS D hD => ?_⟩
  unfold sParN at hf
  obtain ⟨⟨os, env1⟩, e1, hf⟩ := bind_eq hf
  obtain ⟨env2, e2, hf⟩ := bind_eq hf
  cases hf
  refine h env os env1 e1 G σ H L Lx hR hS _ fun G1 vs H1 L1 Lo s1 ar R1 S1 => ?_
  have hlen : vs.length = n := by
    have : ∀ {own : List (Option Nat)} {os : List O} {vs : List V} {Lo : List Cell}, ArgR X.K G1 σ env1 own os vs Lo → vs.length = own.length := fun {own os vs Lo} ar => by
      induction ar with
      | nil => rfl
      | v _ _ ih => simp [ih]
      | s _ _ _ ih => simp [ih]
    rw [this ar, hl]
  refine ⟨by rw [hlen]; exact hsz, fun p hp => ⟨p, vs, rfl, .inl (.inl upd_same), hlen, ?_⟩⟩
  have m1 := same_new (o := .tup vs) (S1.fresh hp).1
  refine hg os env1 env2 e2 _ σ σ _ L1 Lx vs own env1 Lo (ar.mono m1) hn (rel_mono m1 R1) (S1.frozen hp) _ fun G2 σ2 H2 L2 m2 k2 R2 S2 => ?_
  exact hD G2 σ2 H2 L2 ((s1.trans m1).trans m2) k2 R2 S2
/-- three plain local names at once: stored from the right -/
theorem ps_par3 {i j k : Nat} {x y z : Str} {ta : TA} {px py pz pt : Pos} {kt k2 pt2} (hc : X.calm = true) (hN : X.N.Nodup) (hi : X.N[i]? = some x) (hj : X.N[j]? = some y) (hk : X.N[k]? = some z) (hij : i ≠ j) (hik : i ≠ k) (hjk : j ≠ k)
    (hx : X.env.scope.names.lookup x = some .local) (hy : X.env.scope.names.lookup y = some .local) (hz : X.env.scope.names.lookup z = some .local) (ha : PA X [a, b, c] ta)
    (hw : swappedStores [.Tuple [.Name x px, .Name y py, .Name z pz] kt pt] (.Tuple [a, b, c] k2 pt2) X.env = pure (some [x, y, z]))
    (hs : swapsWithSole [.Tuple [.Name x px, .Name y py, .Name z pz] kt pt] (.Tuple [a, b, c] k2 pt2) pos.line X.env = pure false := by rfl) :
    PS X (.Assign [.Tuple [.Name x px, .Name y py, .Name z pz] kt pt] (.Tuple [a, b, c] k2 pt2) pos) (fun D σ H => ta σ H fun vs H1 => ∃ v w u, vs = [v, w, u] ∧ D.nx (((σ.set i (some v)).set j (some w)).set k (some u)) H1) := by
  refine ⟨fun pins s σ H D I h => ?_⟩
  rw [exec_Assign_arm]
  refine wpAny_bind (wpAny_standAt ?_)
  rw [hs]
  refine wpAny_bind (wpAny_pure ?_)
  rw [if_neg (by decide)]
  refine wpAny_bind (Tuple_ (thn (ha.run _ pins s σ H _ I h) fun us s1 ⟨vs, H1, I1, r1, q1⟩ => ?_))
  obtain ⟨v, w, u, e1, q1⟩ := q1
  subst e1
  obtain ⟨u1, u2, u3, rfl, rv, rw', ru⟩ : ∃ u1 u2 u3, us = [u1, u2, u3] ∧ RelV v u1 ∧ RelV w u2 ∧ RelV u u3 := by
    cases r1 with
    | cons p q =>
      cases q with
      | cons p' q' =>
        cases q' with
        | cons p3 q3 =>
          cases q3
          exact ⟨_, _, _, rfl, p, p', p3⟩
  refine wpAny_newObj_type ?_ (by show 3 ≤ sizeLine; decide)
  have I2 : Inv X pins σ H1 { s1 with heap := s1.heap.push { cls := .type "tuple", data := .seq [u1, u2, u3].toArray } } := I1.kept (t' := s1.toks) fun b o e => Heap.get?_push_of_some _ e
  rw [hw]
  refine wpAny_bind (wpAny_pure ?_)
  show wpAny (model X.prog X.w) X.A (do rule "assign.swapped-stores"; let items ← unpackItems (.ref s1.heap.objs.size) 3 none; assignInOrder [fun v => bindName X.env z v, fun v => bindName X.env y v, fun v => bindName X.env x v] items.reverse; pure Flow.next) _ _ _
  refine wpAny_bind (wpAny_rule (wpAny_bind (unpackItems_tuple (items := #[u1, u2, u3]) (I.ok.hd hc) (IsTup.new s1.heap _) fun h' hx' => ?_)))
  have I3 := I2.kept (h' := h') (t' := s1.toks) fun b o e => hx' b o (Nat.ne_of_lt (Heap.lt_size e)) e
  show wpAny _ _ (assignInOrder [fun v => bindName X.env z v, fun v => bindName X.env y v, fun v => bindName X.env x v] [u3, u2, u1] >>= fun _ => pure Flow.next) _ _ _
  refine wpAny_bind (assignInOrder_cons (wpAny_bindName (store_ok I3 hN hk (.inl hz) ru (fun s2 I4 => ?_) (.inr hz))))
  refine assignInOrder_cons (wpAny_bindName (store_ok I4 hN hj (.inl hy) rw' (fun s3 I5 => ?_) (.inr hy)))
  refine assignInOrder_cons (wpAny_bindName (store_ok I5 hN hi (.inl hx) rv (fun s4 I6 => assignInOrder_nil (wpAny_pure ?_)) (.inr hx)))
  have e : ((σ.set k (some u)).set j (some w)).set i (some v) = ((σ.set i (some v)).set j (some w)).set k (some u) := by
    rw [List.set_comm _ _ hjk.symm, List.set_comm _ _ hik.symm, List.set_comm _ _ hij.symm]
  rw [e] at I6
  exact ⟨_, H1, I6, q1⟩
theorem sv_par3 {x y z : Str} {px py pz pt pt2 : Pos} {kt k2 : Nat} {fa fb fc : Ex} (i j k : Nat) (hc : X.calm = true) (hN : X.N.Nodup) (ha : EV X T a fa) (hb : EV X T b fb) (hcc : EV X T c fc) (hi : X.N[i]? = some x := by rfl) (hj : X.N[j]? = some y := by rfl) (hk : X.N[k]? = some z := by rfl) (hij : i ≠ j := by decide) (hik : i ≠ k := by decide) (hjk : j ≠ k := by decide)
    (hx : X.env.scope.names.lookup x = some .local := by rfl) (hy : X.env.scope.names.lookup y = some .local := by rfl) (hz : X.env.scope.names.lookup z = some .local := by rfl) (hli : lk i = false := by rfl) (hlj : lk j = false := by rfl) (hlk : lk k = false := by rfl)
    (hw : swappedStores [.Tuple [.Name x px, .Name y py, .Name z pz] kt pt] (.Tuple [a, b, c] k2 pt2) X.env = pure (some [x, y, z]) := by rfl) (hs : swapsWithSole [.Tuple [.Name x px, .Name y py, .Name z pz] kt pt] (.Tuple [a, b, c] k2 pt2) pos.line X.env = pure false := by rfl)
    (hs1 : starEach [a, b, c] X.env = (false, eval a X.env) :: starEach [b, c] X.env := by rfl) (hs2 : starEach [b, c] X.env = (false, eval b X.env) :: starEach [c] X.env := by rfl) (hs3 : starEach [c] X.env = (false, eval c X.env) :: starEach [] X.env := by rfl) :
    SV X T lk (.Assign [.Tuple [.Name x px, .Name y py, .Name z pz] kt pt] (.Tuple [a, b, c] k2 pt2) pos) (sPar3 i j k fa fb fc) := by
  obtain ⟨ta, pa, h1⟩ := ha
  obtain ⟨tb, pb, h2⟩ := hb
  obtain ⟨tc, pc, h3⟩ := hcc
  refine ⟨_, ps_par3 hc hN hi hj hk hij hik hjk hx hy hz (pa_cons pa (pa_cons pb (pa_cons pc pa_nil hs3) hs2) hs1) hw hs, fun env r hf G σ H L Lx hR hS D hD => ?_⟩
  unfold sPar3 at hf
  obtain ⟨⟨o1, env1⟩, e1, hf⟩ := bind_eq hf
  obtain ⟨⟨o2, env2⟩, e2, hf⟩ := bind_eq hf
  obtain ⟨⟨o3, env3⟩, e3, hf⟩ := bind_eq hf
  cases hf
  refine h1 env o1 env1 e1 G σ H L Lx hR hS _ fun G1 v1 H1 L1 Lo1 s1 ot1 R1 S1 => ?_
  refine h2 env1 o2 env2 e2 G1 σ H1 L1 (Lo1 ++ Lx) R1 S1.comm3 _ fun G2 v2 H2 L2 Lo2 s2 ot2 R2 S2 => ?_
  refine h3 env2 o3 env3 e3 G2 σ H2 L2 (Lo2 ++ (Lo1 ++ Lx)) R2 S2.comm3 _ fun G3 v3 H3 L3 Lo3 s3 ot3 R3 S3 => ?_
  refine ⟨v1, v2, v3, rfl, ?_⟩
  obtain ⟨L4, q1, q2⟩ := rel_put (j := i) R3 (ot_mono (s2.trans s3) ot1)
  obtain ⟨L5, q3, q4⟩ := rel_put (j := j) q1 (ot_mono s3 ot2)
  obtain ⟨L6, q5, q6⟩ := rel_put (j := k) q3 ot3
  refine hD G3 _ H3 L6 ((s1.trans s2).trans s3) (fun n hn => by rw [lk_set hlk n hn, lk_set hlj n hn, lk_set hli n hn]) q5 (S3.sub ?_)
  refine Sub.trans (L' := Lo3 ++ (Lo2 ++ (Lo1 ++ (L3 ++ Lx)))) (.perm (((List.perm_append_comm_assoc L3 Lo2 _).append_left Lo3).trans ((((List.perm_append_comm_assoc L3 Lo1 Lx).append_left Lo2)).append_left Lo3))) ?_
  rw [← List.append_assoc Lo1, ← List.append_assoc Lo2, ← List.append_assoc]
  exact (Sub.trans (Sub.trans q2.left q4).left q6).right
end
end Sh

/-! Shift layer 9: ends. -/
namespace Sh
open PySem PySem.Spec PyProof.Rows L2
section
variable {X : Cx} {T : TabsT} {lk : Nat → Bool} {a b c e : Expr} {pos : Pos}
theorem bv_chain {op op' : CmpOp} {g g' : O → O → Option Bool} {fa fb fc : Ex} (hg : Cmp2 X T op g) (hg' : Cmp2 X T op' g') (ha : EV X T a fa) (hb : EV X T b fb) (hc : EV X T c fc) (hm : lastMarks [op, op'] [b, c] = false := by with_unfolding_all rfl) :
    BV X T (.Compare a [op, op'] [b, c] pos) (bChain g g' fa fb fc) := by
  obtain ⟨ta, pa, ha⟩ := ha
  obtain ⟨tb, pb, hb⟩ := hb
  obtain ⟨tc, pc, hc⟩ := hc
  refine ⟨_, pt_chain can2_ok can2_ok pa pb pc hm, fun env o env' hf G σ H L Lx hR hS Q hQ => ?_⟩
  unfold bChain at hf
  obtain ⟨⟨o1, env1⟩, e1, hf⟩ := bind_eq hf
  obtain ⟨⟨o2, env2⟩, e2, hf⟩ := bind_eq hf
  obtain ⟨k, e3, hf⟩ := bind_eq hf
  refine ha env o1 env1 e1 G σ H L Lx hR hS _ fun G1 v1 H1 L1 Lo1 s1 ot1 R1 S1 => ?_
  refine hb env1 o2 env2 e2 G1 σ H1 L1 (Lo1 ++ Lx) R1 S1.comm3 _ fun G2 v2 H2 L2 Lo2 s2 ot2 R2 S2 => ?_
  refine hg.can (ot_mono s2 ot1) ot2 (fun c hc => List.mem_append_right _ (List.mem_append_right _ (List.mem_append_left _ hc))) (fun c hc => List.mem_append_left _ hc) S2 e3 ?_
  refine ⟨k, rfl, ?_⟩
  cases k with
  | true =>
    simp only [if_true] at hf ⊢
    obtain ⟨⟨o3, env3⟩, e4, hf⟩ := bind_eq hf
    obtain ⟨k', e5, hf⟩ := bind_eq hf
    cases hf
    refine hc env2 o3 env3 e4 G2 σ H2 L2 (Lo2 ++ (Lo1 ++ Lx)) R2 S2.comm3 _ fun G3 v3 H3 L3 Lo3 s3 ot3 R3 S3 => ?_
    refine hg'.can (ot_mono s3 ot2) ot3 (fun c hc => List.mem_append_right _ (List.mem_append_right _ (List.mem_append_left _ hc))) (fun c hc => List.mem_append_left _ hc) S3 e5 ?_
    exact ⟨_, rfl, hQ G3 H3 L3 ((s1.trans s2).trans s3) R3 (S3.sub (show Sub (L3 ++ Lx) _ from Sub.trans (L' := L3 ++ (Lo2 ++ (Lo1 ++ Lx))) .drop (Sub.left (Sub.trans (L' := Lo1 ++ Lx) .drop .drop))))⟩
  | false =>
    simp only [Bool.false_eq_true, if_false] at hf ⊢
    cases hf
    exact ⟨false, rfl, hQ G2 H2 L2 (s1.trans s2) R2 (S2.sub (sub_tail2 (E := [])))⟩
end
theorem spD_none {K : PySem.W.Frag} {T : TabsT} {vs : List V} {H : Hp} {Q : VK} {E : XK} (h : spD K T (fun _ => none) vs H Q E) : False := by
  obtain ⟨_, _, _, _, _, _, _, _, z, _⟩ := h
  cases z
theorem fnok_none {P : Program} {w : World} {K : PySem.W.Frag} {mg : Str → Option Value} {base : Heap} {T : TabsT} {k : Nat} {f : Addr} {fd : FuncData} {ps : List Str} : FnOk P w K mg base CX0 k f fd ps (spD K T fun _ => none) :=
  ⟨fun vs H Q E h => (spD_none h).elim, fun A outer s H args us vs Q E hr e0 hb r h => (spD_none h).elim⟩
theorem lk_out {l : List Bool} {n i : Nat} (h : n ≤ i) (hl : l.length = n) : l.getD i false = false := by
  rw [List.getD_eq_getElem?_getD, List.getElem?_eq_none (by omega)]
  rfl
theorem law_sp {K : PySem.W.Frag} {F : Fn} {H : Hp} {a : Addr} {ns : List Int} (h : ∃ fs, F [.d (.list (ns.map .int))] = some (.d (.bool true), fs)) (hS : SqL K H a (ns.map V.int)) {E : XK} : spD K ([], []) F [.ref a] H (fun v _ => v = .bl true) E := by
  obtain ⟨fs, h⟩ := h
  have hd : DqAll K H (ns.map V.int) (ns.map PyData.int) := by
    clear h hS
    induction ns with
    | nil => exact .nil
    | cons n r ih => exact .cons (.int n) ih
  refine ⟨H, [_], [], [], _, fs, .some (.d (.lst hS hd)) .nil, ⟨by simp, by simp, .refl _, by simp, by simp, by simp, by simp⟩, h, fun G' v H' cr cf s ot _ _ => ?_⟩
  cases ot with
  | d ot =>
    cases ot
    rfl
end Sh

/-! Shift layer: what may raise. -/
namespace Sh
open PySem PySem.Spec PyProof.Rows L2
def spDX (K : PySem.W.Frag) (mg : Str → Option Value) (T : TabsT) (F : FnX) : Sp := fun vs H Q E => ∃ (G : Hp) (os : List O) (cs Lx : List Cell) (r : FO), RelS K G (os.map some) (vs.map some) cs ∧ Sep T G H (cs ++ Lx) ∧ F os = some r ∧
  match r with
  | .ok r fs => ∀ (G' : Hp) (v : V) (H' : Hp) (cr cf : List Cell), Same G G' → OT K G' r v cr → RelS K G' fs (vs.map some) cf → Sep T G' H' (cr ++ (cf ++ Lx)) → Q v H'
  | .ex x => ∀ (G' H' : Hp) (cls : Value) (d : Option Addr), Same G G' → Sep T G' H' Lx → ExnR K mg G' H' x cls d → E cls d H'
inductive XO where
  | ok (o : O) (e : Ev) | ex (x : Xn) (e : Ev)
abbrev XEx := Ev → Option XO
def PostX (X : Cx) (T : TabsT) (Lx : List Cell) (G : Hp) (σ : St) (Q : VK) : XO → Prop
  | .ok o e => PostE X T Lx G σ o e Q
  | .ex x e => ∀ (G' H' : Hp) (L' : List Cell) (cls : Value) (d : Option Addr), Same G G' → RelS X.K G' e σ L' → Sep T G' H' (L' ++ Lx) → ExnR X.K X.mg G' H' x cls d → WOf X cls d σ H'
/-- an expression that may raise -/
def XV (X : Cx) (T : TabsT) (e : Expr) (f : XEx) : Prop := ∃ te : TE, PE X e te ∧ ∀ (env : Ev) (r : XO), f env = some r → ∀ (G : Hp) (σ : St) (H : Hp) (L Lx : List Cell), RelS X.K G env σ L → Sep T G H (L ++ Lx) → ∀ Q : VK, PostX X T Lx G σ Q r → te σ H Q
/-- what does not raise -/
@[simp] def xV (f : Ex) : XEx := fun e => (f e).bind fun p => some (.ok p.1 p.2)
@[simp] def xCall (F : FnX) (own : List (Option Nat)) (as : ExA) : XEx := fun e => (as e).bind fun p => (F p.1).bind fun r => match r with
  | .ok r fs => some (.ok r (putBack own fs (clearE own p.2)))
  | .ex x => some (.ex x (clearE own p.2))
@[simp] def xIf (c : ExB) (a b : XEx) : XEx := fun e => (c e).bind fun p => if p.1 = true then a p.2 else b p.2
@[simp] def sExprX (a : XEx) : Sx := fun e => (a e).bind fun r => match r with
  | .ok _ e1 => some (.nx e1)
  | .ex x e1 => some (.ex x e1)
@[simp] def sRetX (a : XEx) : Sx := fun e => (a e).bind fun r => match r with
  | .ok o e1 => some (.rt o e1)
  | .ex x e1 => some (.ex x e1)
@[simp] def sSetX (i : Nat) (a : XEx) : Sx := fun e => (a e).bind fun r => match r with
  | .ok o e1 => some (.nx (e1.set i (some o)))
  | .ex x e1 => some (.ex x e1)
@[simp] def sSetFX (i : Nat) (a : XEx) : Sx := fun e => (a e).bind fun r => match r with
  | .ok o e1 => (frz o).bind fun x => some (.nx (e1.set i (some (.d x))))
  | .ex x e1 => some (.ex x e1)
@[simp] def sRaise (x : Xn) : Sx := fun e => some (.ex x e)
/-- raise X(e), e a value without a place -/
@[simp] def sRaise1 (c f : Str) (a : Ex) : Sx := fun e => (a e).bind fun p => match p.1 with
  | .d y => some (.ex ⟨c, some (f, y)⟩ p.2)
  | _ => none
section
variable {X : Cx} {T : TabsT} {lk : Nat → Bool} {a b c e : Expr} {pos : Pos} {rest es : List Expr}
theorem xv_of {f : Ex} (h : EV X T e f) : XV X T e (xV f) := by
  obtain ⟨te, pe, h⟩ := h
  refine ⟨te, pe, fun env r hf G σ H L Lx hR hS Q hQ => ?_⟩
  unfold xV at hf
  obtain ⟨⟨o, env1⟩, e1, hf⟩ := bind_eq hf
  cases hf
  exact h env o env1 e1 G σ H L Lx hR hS Q hQ
theorem xv_call {k : Nat} {f : Addr} {fd : FuncData} {ps : List Str} {x : Str} {p : Pos} {F : FnX} {own : List (Option Nat)} {fas : ExA} (hF : FnOk X.prog X.w X.K X.mg X.base (L2.CX X.prog X.w) k f fd ps (spDX X.K X.mg T F)) (hr : Room k X.A) (hm : X.mg x = some (.ref f)) (hk : PySem.W.keepIn X.K (.ref f) = true) (hb : Binds X.K fd ps [])
    (ha : AV X T (e :: es) own fas) (ho : ownOk own = true := by decide) (hg : Gl X x := by rfl) (hdb : (x == ("__debug__" : Str)) = false := by decide) (he : starEach (e :: es) X.env = (false, eval e X.env) :: starEach es X.env := by rfl) (hpl : (backTo pos (starEach es X.env)).any (·.1) = false := by rfl) :
    XV X T (.Call (.Name x p) (e :: es) [] pos) (xCall F own fas) := by
  obtain ⟨t, pa, h⟩ := ha
  refine ⟨_, pe_callSD (E := fun σ cls d H' => WOf X cls d σ H') hF hr hg hm hk hb .nil (fun σ pins H s e s' I c => takes_wof e s' (XE.of_call I (fun cls d H' h => h) c)) pa hdb he hpl, fun env r hf G σ H L Lx hR hS Q hQ => ?_⟩
  unfold xCall at hf
  obtain ⟨⟨os, env1⟩, e1, hf⟩ := bind_eq hf
  obtain ⟨r2, e2, hf⟩ := bind_eq hf
  refine h env os env1 e1 G σ H L Lx hR hS _ fun G1 vs H1 L1 Lo1 s1 ar R1 S1 => ?_
  obtain ⟨cs, Lr, q1, q2, q3⟩ := call_take ar ho R1
  have S1' : Sep T G1 H1 (cs ++ (Lr ++ Lx)) := S1.sub (.perm (by
    rw [← List.append_assoc, ← List.append_assoc]
    exact q3.append_right Lx))
  cases r2 with
  | ok r fs =>
    cases hf
    refine ⟨G1, os, cs, Lr ++ Lx, .ok r fs, by simpa using q1, S1', e2, fun G2 v H2 cr cf s2 ot rf S2 => ?_⟩
    obtain ⟨L', w1, w2⟩ := call_put (G' := G2) ar ho (fun j z => clearE_none z) (by simpa using rf) (rel_mono s2 q2)
    refine hQ G2 v H2 L' cr (s1.trans s2) ot w1 (S2.sub (Sub.left ?_))
    rw [← List.append_assoc]
    exact w2.right
  | ex x =>
    cases hf
    exact ⟨G1, os, cs, Lr ++ Lx, .ex x, by simpa using q1, S1', e2, fun G2 H2 cls d s2 S2 q => hQ G2 H2 Lr cls d (s1.trans s2) (rel_mono s2 q2) S2 q⟩
/-- a def that may raise, where it does not -/
theorem ev_callX {k : Nat} {f : Addr} {fd : FuncData} {ps : List Str} {x : Str} {p : Pos} {F : FnX} {own : List (Option Nat)} {fas : ExA} (hF : FnOk X.prog X.w X.K X.mg X.base (L2.CX X.prog X.w) k f fd ps (spDX X.K X.mg T F)) (hr : Room k X.A) (hm : X.mg x = some (.ref f)) (hk : PySem.W.keepIn X.K (.ref f) = true) (hb : Binds X.K fd ps [])
    (ha : AV X T (e :: es) own fas) (ho : ownOk own = true := by decide) (hg : Gl X x := by rfl) (hdb : (x == ("__debug__" : Str)) = false := by decide) (he : starEach (e :: es) X.env = (false, eval e X.env) :: starEach es X.env := by rfl) (hpl : (backTo pos (starEach es X.env)).any (·.1) = false := by rfl) :
    EV X T (.Call (.Name x p) (e :: es) [] pos) (eCall (okF F) own fas) := by
  obtain ⟨te, pe, h⟩ := xv_call hF hr hm hk hb ha ho hg hdb he hpl
  refine ⟨te, pe, fun env o env' hf G σ H L Lx hR hS Q hQ => ?_⟩
  unfold eCall at hf
  obtain ⟨⟨os, env1⟩, e1, hf⟩ := bind_eq hf
  obtain ⟨⟨r, fs⟩, e2, hf⟩ := bind_eq hf
  cases hf
  unfold okF at e2
  split at e2
  case h_2 => cases e2
  rename_i r2 fs2 e3
  cases e2
  refine h env (.ok _ (putBack own _ (clearE own env1))) (by
    unfold xCall
    rw [e1]
    show Option.bind (F os) _ = _
    rw [e3]
    rfl) G σ H L Lx hR hS Q hQ
theorem xv_if {fc : ExB} {fa fb : XEx} (hc : BV X T c fc) (ha : XV X T a fa) (hb : XV X T b fb) : XV X T (.IfExp c a b pos) (xIf fc fa fb) := by
  obtain ⟨tc, pc, hc⟩ := hc
  obtain ⟨ta, pa, ha⟩ := ha
  obtain ⟨tb, pb, hb⟩ := hb
  refine ⟨_, pe_ifExp pc pa pb, fun env r hf G σ H L Lx hR hS Q hQ => ?_⟩
  unfold xIf at hf
  obtain ⟨⟨k, env1⟩, e1, hf⟩ := bind_eq hf
  refine hc env k env1 e1 G σ H L Lx hR hS _ fun G1 H1 L1 s1 R1 S1 => ?_
  have hQ' : PostX X T Lx G1 σ Q r := by
    cases r with
    | ok o e2 => exact fun G2 v H2 L2 Lo s2 ot R2 S2 => hQ G2 v H2 L2 Lo (s1.trans s2) ot R2 S2
    | ex x e2 => exact fun G2 H2 L2 cls d s2 R2 S2 q => hQ G2 H2 L2 cls d (s1.trans s2) R2 S2 q
  cases k with
  | true =>
    simp only [if_true] at hf ⊢
    exact ha env1 r hf G1 σ H1 L1 Lx R1 S1 Q hQ'
  | false =>
    simp only [Bool.false_eq_true, if_false] at hf ⊢
    exact hb env1 r hf G1 σ H1 L1 Lx R1 S1 Q hQ'
/-! ### statements -/
theorem postX_from {Lx : List Cell} {G : Hp} {σ : St} {D : Ends} {x : Xn} {e1 : Ev} (hD : PostS X T lk Lx G σ D (.ex x e1)) {Q : VK} : PostX X T Lx G σ Q (.ex x e1) := fun G' H' L' cls d s1 R S q => hD G' σ H' L' cls d s1 (fun _ _ => rfl) R S q
theorem sv_exprX {f : XEx} (ha : XV X T a f) (hs : swapsWith a none pos.line X.env = pure false := by rfl) : SV X T lk (.Expr a pos) (sExprX f) := by
  obtain ⟨te, pe, h⟩ := ha
  refine ⟨_, ps_expr pe hs, fun env r hf G σ H L Lx hR hS D hD => ?_⟩
  unfold sExprX at hf
  obtain ⟨x, e1, hf⟩ := bind_eq hf
  refine h env x e1 G σ H L Lx hR hS _ ?_
  cases x with
  | ok o env1 =>
    cases hf
    exact fun G1 v H1 L1 Lo s1 ot R1 S1 => hD G1 σ H1 L1 s1 (fun _ _ => rfl) R1 (S1.sub .drop)
  | ex x env1 =>
    cases hf
    exact postX_from hD
theorem sv_retX {f : XEx} (ha : XV X T a f) : SV X T lk (.Return (some a) pos) (sRetX f) := by
  obtain ⟨te, pe, h⟩ := ha
  refine ⟨_, ps_ret pe, fun env r hf G σ H L Lx hR hS D hD => ?_⟩
  unfold sRetX at hf
  obtain ⟨x, e1, hf⟩ := bind_eq hf
  refine h env x e1 G σ H L Lx hR hS _ ?_
  cases x with
  | ok o env1 =>
    cases hf
    exact fun G1 v H1 L1 Lo s1 ot R1 S1 => hD G1 v σ H1 L1 Lo s1 (fun _ _ => rfl) ot R1 S1
  | ex x env1 =>
    cases hf
    exact postX_from hD
theorem sv_setX {x : Str} {p : Pos} {f : XEx} (i : Nat) (hN : X.N.Nodup) (he : XV X T e f) (hi : X.N[i]? = some x := by rfl) (hl : lk i = false := by rfl) (hx : Loc X.env.scope x := by first | exact Or.inl rfl | exact Or.inr rfl)
    (hs : swapsWith e (some (.Name x p)) pos.line X.env = pure false := by rfl) (hf : X.fn x = true ∨ X.env.scope.names.lookup x = some .local := by first | exact .inl rfl | exact .inr rfl) : SV X T lk (.Assign [.Name x p] e pos) (sSetX i f) := by
  obtain ⟨t, pe, h⟩ := he
  refine ⟨_, ps_set hN hi hx pe hs hf, fun env r hf G σ H L Lx hR hS D hD => ?_⟩
  unfold sSetX at hf
  obtain ⟨y, e1, hf⟩ := bind_eq hf
  refine h env y e1 G σ H L Lx hR hS _ ?_
  cases y with
  | ok o env1 =>
    cases hf
    intro G1 v H1 L1 Lo s1 ot R1 S1
    obtain ⟨L', q1, q2⟩ := rel_put (j := i) R1 ot
    exact hD G1 (σ.set i (some v)) H1 L' s1 (lk_set hl) q1 (S1.sub (by rw [← List.append_assoc]; exact q2.right))
  | ex x env1 =>
    cases hf
    exact postX_from hD
theorem sv_setFX {x : Str} {p : Pos} {f : XEx} (i : Nat) (hN : X.N.Nodup) (he : XV X T e f) (hi : X.N[i]? = some x := by rfl) (hl : lk i = false := by rfl) (hx : Loc X.env.scope x := by first | exact Or.inl rfl | exact Or.inr rfl)
    (hs : swapsWith e (some (.Name x p)) pos.line X.env = pure false := by rfl) (hf : X.fn x = true ∨ X.env.scope.names.lookup x = some .local := by first | exact .inl rfl | exact .inr rfl) : SV X T lk (.Assign [.Name x p] e pos) (sSetFX i f) := by
  obtain ⟨t, pe, h⟩ := he
  refine ⟨_, ps_set hN hi hx pe hs hf, fun env r hf G σ H L Lx hR hS D hD => ?_⟩
  unfold sSetFX at hf
  obtain ⟨y, e1, hf⟩ := bind_eq hf
  refine h env y e1 G σ H L Lx hR hS _ ?_
  cases y with
  | ok o env1 =>
    obtain ⟨z, e2, hf⟩ := bind_eq hf
    cases hf
    intro G1 v H1 L1 Lo s1 ot R1 S1
    obtain ⟨G2, m2, d2, S2⟩ := frz_of ot e2 S1
    obtain ⟨L', q1, q2⟩ := rel_put (j := i) (rel_mono m2 R1) (.d d2)
    exact hD G2 (σ.set i (some v)) H1 L' (s1.trans m2) (lk_set hl) q1 (S2.sub (Sub.right (by simpa using q2)))
  | ex x env1 =>
    cases hf
    exact postX_from hD
/-! ### raise -/
/-- X(), X an own exception class without own __init__ -/
theorem pmk_own0 {C : Addr} {bmB : List Value} {B newId initId : String} {x : Str} {p pos : Pos} (F : ExcBaseFacts B newId initId bmB) (q : PySem.W.excIn X.K C bmB newId = true) (gC : X.mg x = some (.ref C)) (kC : PySem.W.keepIn X.K (.ref C) = true) (r : Raises X (.ref C)) (hg : Gl X x)
    (hdb : (x == ("__debug__" : Str)) = false := by decide) : PMk X (.Call (.Name x p) [] [] pos) (fun _ H Q => Q (.ref C) none H) := by
  intro pins s σ H Q I h
  refine wpAny_Call_Name_kw (ld_glob I hg gC ?_ hdb)
  refine PySem.W.callWith_K0 I.kIn kC ?_
  show wpAny _ _ (call (.ref C) []) _ _ _
  obtain ⟨bm, N, nm, qn, bs, hdct, sn, sub, ab, col, dd, k0, k1, k2, k3, k5, mN, hC, hN, hni, T⟩ := exc_obj I.kIn q
  refine wpAny_call_exc_subT F T hC hN hni (fun h' e hm => ?_) (Nat.zero_le _)
  exact mk_of I hm r h (I.hok.gone hm.new)
/-- facts of an own exception class without own __init__, over ValueError -/
structure ExF (K : PySem.W.Frag) (mg : Str → Option Value) (x : Str) (C : Addr) : Prop where
  gC : mg x = some (.ref C)
  kC : PySem.W.keepIn K (.ref C) = true
  ex : PySem.W.excIn K C HandSPX.veTail "ValueError.__new__" = true
  sb : PySem.W.subIn K (.ref C) (.type "BaseException") = some true
  ty : PySem.W.typeIn K (.ref C) = some (.type "type")
theorem sv_raise0 {x : Str} {C : Addr} {p pos pos' : Pos} (F : ExF X.K X.mg x C) (hc : X.calm = true) (hg : Gl X x := by rfl) (hdb : (x == ("__debug__" : Str)) = false := by decide) : SV X T lk (.Raise (some (.Call (.Name x p) [] [] pos)) none pos') (sRaise ⟨x, none⟩) :=
  ⟨_, ps_raise hc takes_wof (pmk_own0 PySem.F.excBase_ValueError F.ex F.gC F.kC (raises_own F.sb F.ty) hg hdb), fun env r hf G σ H L Lx hR hS D hD => by
    cases hf
    exact hD G σ H L (.ref C) none (.refl _) (fun _ _ => rfl) hR hS ⟨F.gC, rfl⟩⟩
end
section
variable {P : Program} {w : World} {K : PySem.W.Frag} {mg : Str → Option Value} {base : Heap} {T : TabsT}
/-- a def that may raise -/
theorem def_okGX {x qual : Str} {st : Stmt} {f : Addr} {fd : FuncData} {N ps : List Str} {k : Nat} {lk : Nat → Bool} {body : Sx} (F : L2.Fun K x qual st f fd) (S : FnScope N ps (defScope st)) (hlk : ∀ i, ps.length ≤ i → lk i = false)
    (hbody : ∀ (cdv : Value), fd.code = cdv → ∀ (A : Around) (outer : List Env) (s : Shared) (H : Hp) (E : XK), Room k (A.deeper (envOfC qual (defScope st) s.heap.objs.size f cdv)) → SVs (cxOf (L2.CX P w) P w K mg base N qual (defScope st) f cdv A outer s H E) T lk (defBody st) body) :
    FnOk P w K mg base (L2.CX P w) (k + 1) f fd ps (spDX K mg T (runDefX N.length ps.length lk body)) := by
  have hlen : ∀ {os : List O} {r : FO}, runDefX N.length ps.length lk body os = some r → os.length = ps.length := fun {os r} h => by
    unfold runDefX at h
    split at h
    · assumption
    · cases h
  obtain ⟨oc, od, kV, doc, pm, an, cdv, ct, osl, efd, lkf, hcd⟩ := F.ex
  have hb := hbody cdv (by rw [efd] <;> rfl)
  subst efd
  refine fn_of lkf hcd S (fun vs H Q E h => ?_) (fun A outer s H vs Q E hr h => ?_)
  · obtain ⟨G, os, cs, Lx, r, hR, hS, hF, _⟩ := h
    have := rel_len hR
    simp only [List.length_map] at this
    rw [← this]
    exact hlen hF
  · obtain ⟨G, os, cs, Lx, r, hR, hS, hF, hQ⟩ := h
    have hl := hlen hF
    have hlv : vs.length = ps.length := by
      have := rel_len hR
      simp only [List.length_map] at this
      omega
    have hN : ps.length ≤ N.length := by
      have := congrArg List.length S.pre
      rw [List.length_take] at this
      omega
    obtain ⟨t, p, h⟩ := hb A outer s H E hr
    refine ⟨t, p, ?_⟩
    unfold runDefX at hF
    rw [if_pos hl] at hF
    obtain ⟨o, e1, hF⟩ := bind_eq hF
    have R0 : RelS K G (os.map some ++ List.replicate (N.length - ps.length) none) (L2.start N vs) (cs ++ []) := by
      unfold L2.start
      rw [hlv]
      exact rel_app hR (rel_nones _ _ (by simp))
    rw [List.append_nil] at R0
    have lock : ∀ {σ' : St}, (∀ i, lk i = true → σ'[i]? = (L2.start N vs)[i]?) → ∀ i, i < ps.length → lk i = true → σ'[i]? = some (vs[i]?) := fun {σ'} hk i hi hlki => by
      rw [hk i hlki]
      unfold L2.start
      rw [List.getElem?_append_left (by simp; omega), List.getElem?_map, List.getElem?_eq_getElem (by omega)]
      rfl
    refine h _ o e1 G (L2.start N vs) H cs Lx R0 hS _ ?_
    cases o with
    | bk e => cases hF
    | ex x e =>
      cases hF
      intro G' σ' H' L' cls d s1 k1 R1 S1 q
      exact ⟨fun cls d _ H => E cls d H, takes_of rfl rfl rfl rfl, hQ G' H' cls d s1 (S1.sub .drop) q⟩
    | nx e =>
      cases hF
      intro G' σ' H' L' s1 k1 R1 S1
      obtain ⟨Lf, Lr, e', a, b, c, _⟩ := fins_rel (lk := lk) (vs := vs) ps.length R1 (by omega) (lock k1)
      rw [show vs.take ps.length = vs by rw [← hlv]; exact List.take_length] at a
      exact hQ G' .non H' [] Lf s1 (.d .non) a (S1.sub (Sub.right (Sub.trans (.perm c) .dropR)))
    | rt r' e =>
      cases hF
      intro G' v σ' H' L' Lo s1 k1 ot R1 S1
      obtain ⟨Lf, Lr, e', a, b, c, _⟩ := fins_rel (lk := lk) (vs := vs) ps.length R1 (by omega) (lock k1)
      rw [show vs.take ps.length = vs by rw [← hlv]; exact List.take_length] at a
      exact hQ G' v H' Lo Lf s1 ot a (S1.sub ((Sub.right (Sub.trans (.perm c) .dropR)).left))
theorem def_okX {x qual : Str} {st : Stmt} {f : Addr} {fd : FuncData} {N ps : List Str} {k : Nat} {lk : Nat → Bool} {body : Sx} (F : L2.Fun K x qual st f fd) (S : FnScope N ps (defScope st)) (hlk : ∀ i, ps.length ≤ i → lk i = false)
    (hbody : ∀ (cdv : Value) (A : Around) (outer : List Env) (s : Shared) (H : Hp) (E : XK), Room k (A.deeper (envOfC qual (defScope st) s.heap.objs.size f cdv)) → SVs (cxOf (L2.CX P w) P w K mg base N qual (defScope st) f cdv A outer s H E) T lk (defBody st) body) :
    FnOk P w K mg base (L2.CX P w) (k + 1) f fd ps (spDX K mg T (runDefX N.length ps.length lk body)) :=
  def_okGX F S hlk fun cdv _ => hbody cdv
theorem def_okTX {x qual : Str} {st : Stmt} {f c : Addr} {fd : FuncData} {N ps : List Str} {k : Nat} {lk : Nat → Bool} {body : Sx} (hcd : fd.code = .ref c) (F : L2.Fun K x qual st f fd) (S : FnScope N ps (defScope st)) (hlk : ∀ i, ps.length ≤ i → lk i = false)
    (hbody : ∀ (A : Around) (outer : List Env) (s : Shared) (H : Hp) (E : XK), Room k (A.deeper (envOfC qual (defScope st) s.heap.objs.size f (.ref c))) → SVs (cxOf (L2.CX P w) P w K mg base N qual (defScope st) f (.ref c) A outer s H E) T lk (defBody st) body) :
    FnOk P w K mg base (L2.CX P w) (k + 1) f fd ps (spDX K mg T (runDefX N.length ps.length lk body)) :=
  def_okGX F S hlk fun cdv h => by
    obtain rfl : Value.ref c = cdv := hcd.symm.trans h
    exact hbody
end
end Sh

/-! Shift layer 10: more rules: list, tuple, slices, what is walked, sorted. -/
namespace Sh
open PySem PySem.Spec PyProof.Rows L2
section
variable {X : Cx} {T : TabsT} {lk : Nat → Bool} {a b c e : Expr} {pos : Pos} {es : List Expr}
theorem o1_list : Op1 X T (fun v H Q => canC X (.type "list") [v] H Q) gList := by
  intro G H L x z vx cx ox mx S ez Q hQ
  unfold gList at ez
  obtain ⟨xs, e1, ez⟩ := bind_eq ez
  cases ez
  obtain ⟨p, vs, rfl, hp, hq⟩ := seq_of ox mx S e1
  exact can_of call_list_of ⟨p, vs, rfl, hp, fun l hl => hQ G _ _ [(l, .lst vs)] (.refl _) (.l hq) (S.owned hl)⟩
theorem o1_tuple : Op1 X T (fun v H Q => canC X (.type "tuple") [v] H Q) gTuple := by
  intro G H L x z vx cx ox mx S ez Q hQ
  unfold gTuple at ez
  obtain ⟨xs, e1, ez⟩ := bind_eq ez
  split at ez
  · rename_i hl
    cases ez
    by_cases ht : ∃ ys, x = .d (.tuple ys)
    · obtain ⟨ys, rfl⟩ := ht
      cases e1
      cases ox with
      | d ox =>
        cases ox with
        | tup h hs => exact can_of call_tuple_of ⟨_, _, rfl, .inr ⟨same_tup S.same h, hQ G _ H [] (.refl _) (.d (.tup h hs)) S⟩⟩
    · have e2 : oLst x = some xs := by
        unfold oSeq at e1
        unfold oLst
        split at e1
        · exact e1
        · exact absurd ⟨_, rfl⟩ ht
        · exact e1
        · cases e1
      obtain ⟨p, vs, rfl, hp, hq⟩ := lst_of ox mx S e2
      refine can_of call_tuple_of ⟨p, vs, rfl, .inl ⟨hp, fun l hl => ?_⟩⟩
      have m := same_new (o := .tup vs) (S.fresh hl).1
      exact hQ _ _ _ [] m (.d (.tup upd_same (dps_mono m _ _ hq))) (S.frozen hl)
  · cases ez
/-! ### list(range(..)), tuple(range(..)) -/
/-- what makes a range -/
def RV (X : Cx) (T : TabsT) (e : Expr) (f : ExI) : Prop := ∃ t : L2.St → Hp → (Int → Int → Hp → Prop) → Prop, PRg X e t ∧ ∀ (env : Ev) (ds : List D) (env' : Ev), f env = some (ds, env') → ∀ (G : Hp) (σ : St) (H : Hp) (L Lx : List Cell), RelS X.K G env σ L → Sep T G H (L ++ Lx) →
  ∀ Q : Int → Int → Hp → Prop, (∀ (G' H' : Hp) (L' : List Cell) (a b : Int), Same G G' → RelS X.K G' env' σ L' → Sep T G' H' (L' ++ Lx) → ds = rangeD a b → -1000000 ≤ a ∧ a ≤ 1000000 ∧ -1000000 ≤ b ∧ b ≤ 1000000 → Q a b H') → t σ H Q
theorem rv_1 {p : Pos} {fa : Ex} (hm : X.mg "range" = none) (ha : EV X T a fa) (hg : Gl X "range" := by rfl) (na : starEach [a] X.env = (false, eval a X.env) :: starEach [] X.env := by rfl) : RV X T (.Call (.Name "range" p) [a] [] pos) (iRange fa) := by
  obtain ⟨t, pa, h⟩ := ha
  refine ⟨_, prg_1 hg hm pa na, fun env ds env' hf G σ H L Lx hR hS Q hQ => ?_⟩
  unfold iRange at hf
  obtain ⟨⟨o, env1⟩, e1, hf⟩ := bind_eq hf
  obtain ⟨n, e2, hf⟩ := bind_eq hf
  split at hf
  · rename_i hn
    cases hf
    refine h env o env1 e1 G σ H L Lx hR hS _ fun G1 v H1 L1 Lo s1 ot R1 S1 => ?_
    obtain ⟨rfl, rfl, rfl⟩ := int_of ot e2
    exact ⟨n, rfl, hQ G1 H1 L1 0 n s1 R1 S1 rfl ⟨by omega, by omega, by omega, by omega⟩⟩
  · cases hf
theorem rv_2 {p : Pos} {fa fb : Ex} (hm : X.mg "range" = none) (ha : EV X T a fa) (hb : EV X T b fb) (hg : Gl X "range" := by rfl) (na : starEach [a, b] X.env = (false, eval a X.env) :: starEach [b] X.env := by rfl) (nb : starEach [b] X.env = (false, eval b X.env) :: starEach [] X.env := by rfl) (hpl : (backTo pos (starEach [b] X.env)).any (·.1) = false := by rfl) : RV X T (.Call (.Name "range" p) [a, b] [] pos) (iRange2 fa fb) := by
  obtain ⟨t, pa, h⟩ := ha
  obtain ⟨t2, pb, h2⟩ := hb
  refine ⟨_, prg_2 hg hm pa pb na nb hpl, fun env ds env' hf G σ H L Lx hR hS Q hQ => ?_⟩
  unfold iRange2 at hf
  obtain ⟨⟨o, env1⟩, e1, hf⟩ := bind_eq hf
  obtain ⟨⟨o2, env2⟩, e2, hf⟩ := bind_eq hf
  obtain ⟨m, e3, hf⟩ := bind_eq hf
  obtain ⟨n, e4, hf⟩ := bind_eq hf
  split at hf
  · rename_i hn
    cases hf
    refine h env o env1 e1 G σ H L Lx hR hS _ fun G1 v H1 L1 Lo s1 ot R1 S1 => ?_
    obtain ⟨rfl, rfl, rfl⟩ := int_of ot e3
    refine h2 env1 o2 env2 e2 G1 σ H1 L1 Lx R1 S1 _ fun G2 v2 H2 L2 Lo2 s2 ot2 R2 S2 => ?_
    obtain ⟨rfl, rfl, rfl⟩ := int_of ot2 e4
    exact ⟨m, n, rfl, rfl, hQ G2 H2 L2 m n (s1.trans s2) R2 S2 rfl ⟨by omega, by omega, by omega, by omega⟩⟩
  · cases hf
theorem rgV_dps {K : PySem.W.Frag} {G : Hp} {a b : Int} : DqAll K G (rgV a b) (rangeD a b) := by
  unfold rgV rangeD
  have : ∀ l : List Nat, DqAll K G (l.map fun i => V.int (a + (i : Nat))) (l.map fun k => PyData.int (a + (k : Nat))) := fun l => by
    induction l with
    | nil => exact .nil
    | cons x r ih => exact .cons (.int _) ih
  exact this _
theorem ev_listR {p : Pos} {fi : ExI} (hc : X.calm = true) (hm : X.mg "list" = none) (he : RV X T e fi) (hg : Gl X "list" := by rfl) (na : starEach [e] X.env = (false, eval e X.env) :: starEach [] X.env := by rfl) : EV X T (.Call (.Name "list" p) [e] [] pos) (eListR fi) := by
  obtain ⟨t, pe, h⟩ := he
  refine ⟨_, pe_listRg hc hg hm pe na, fun env o env' hf G σ H L Lx hR hS Q hQ => ?_⟩
  unfold eListR at hf
  obtain ⟨⟨ds, env1⟩, e1, hf⟩ := bind_eq hf
  simp only at hf
  split at hf
  · rename_i hl
    cases hf
    refine h env ds env' e1 G σ H L Lx hR hS _ fun G1 H1 L1 a b s1 R1 S1 hd hb => ?_
    subst hd
    refine ⟨⟨by omega, by omega, by omega, by omega, ?_⟩, fun q hq => hQ G1 _ _ L1 [(q, .lst (rgV a b))] s1 (.l rgV_dps) R1 (S1.owned hq)⟩
    have : (2 : Nat) ^ 24 = 16777216 := by decide
    omega
  · cases hf
theorem ev_tupR {p : Pos} {fi : ExI} (hc : X.calm = true) (hm : X.mg "tuple" = none) (he : RV X T e fi) (hg : Gl X "tuple" := by rfl) (na : starEach [e] X.env = (false, eval e X.env) :: starEach [] X.env := by rfl) : EV X T (.Call (.Name "tuple" p) [e] [] pos) (eTupR fi) := by
  obtain ⟨t, pe, h⟩ := he
  refine ⟨_, pe_tupRg hc hg hm pe na, fun env o env' hf G σ H L Lx hR hS Q hQ => ?_⟩
  unfold eTupR at hf
  obtain ⟨⟨ds, env1⟩, e1, hf⟩ := bind_eq hf
  simp only at hf
  split at hf
  · rename_i hl
    cases hf
    refine h env ds env' e1 G σ H L Lx hR hS _ fun G1 H1 L1 a b s1 R1 S1 hd hb => ?_
    subst hd
    refine ⟨⟨by omega, by omega, by omega, by omega, ?_⟩, fun q hq => ?_⟩
    · have : (2 : Nat) ^ 24 = 16777216 := by decide
      omega
    · have m := same_new (o := .tup (rgV a b)) (S1.fresh hq).1
      exact hQ _ _ _ L1 [] (s1.trans m) (.d (.tup upd_same rgV_dps)) (rel_mono m R1) (S1.frozen hq)
  · cases hf
/-! ### slices -/
def HV (X : Cx) (T : TabsT) (e : Option Expr) (f : ExH) : Prop := ∃ t : TO, PO X e t ∧ ∀ (env : Ev) (k : Option Int) (env' : Ev), f env = some (k, env') → ∀ (G : Hp) (σ : St) (H : Hp) (L Lx : List Cell), RelS X.K G env σ L → Sep T G H (L ++ Lx) →
  ∀ Q : Option Int → Hp → Prop, (∀ (G' H' : Hp) (L' : List Cell), Same G G' → RelS X.K G' env' σ L' → Sep T G' H' (L' ++ Lx) → Q k H') → t σ H Q
theorem hv_no : HV X T none hNo := ⟨_, po_none, fun env k env' hf G σ H L Lx hR hS Q hQ => by
  cases hf
  exact hQ G H L (.refl _) hR hS⟩
theorem hv_at {fa : Ex} (ha : EV X T a fa) : HV X T (some a) (hAt fa) := by
  obtain ⟨t, pa, h⟩ := ha
  refine ⟨_, po_some pa, fun env k env' hf G σ H L Lx hR hS Q hQ => ?_⟩
  unfold hAt at hf
  obtain ⟨⟨o, env1⟩, e1, hf⟩ := bind_eq hf
  obtain ⟨i, e2, hf⟩ := bind_eq hf
  cases hf
  refine h env o env1 e1 G σ H L Lx hR hS _ fun G1 v H1 L1 Lo s1 ot R1 S1 => ?_
  obtain ⟨rfl, rfl, rfl⟩ := int_of ot e2
  exact ⟨i, rfl, hQ G1 H1 L1 s1 R1 S1⟩
def canSl (X : Cx) : V → Option Int → Option Int → Hp → VK → Prop := fun x lo hi H Q => ∃ r, SlR X r ∧ r x lo hi H Q
theorem canSl_ok : SlR X (canSl X) := fun pins s σ H x v vl vu lo hi sl Q I rx hs pl pu ⟨r, hr, h⟩ => hr pins s σ H x v vl vu lo hi sl Q I rx hs pl pu h
theorem dps_take {K : PySem.W.Frag} {G : Hp} : ∀ {vs : List V} {ds : List D} (n : Nat), DqAll K G vs ds → DqAll K G (vs.take n) (ds.take n)
  | _, _, 0, _ => .nil
  | _, _, _ + 1, .nil => .nil
  | _, _, n + 1, .cons h hs => .cons h (dps_take n hs)
theorem dps_drop {K : PySem.W.Frag} {G : Hp} : ∀ {vs : List V} {ds : List D} (n : Nat), DqAll K G vs ds → DqAll K G (vs.drop n) (ds.drop n)
  | _, _, 0, h => h
  | _, _, _ + 1, .nil => .nil
  | _, _, n + 1, .cons _ hs => dps_drop n hs
theorem dps_cut {K : PySem.W.Frag} {G : Hp} {vs : List V} {ds : List D} {lo hi : Option Int} (h : DqAll K G vs ds) : DqAll K G (cutV vs lo hi) (cutD ds lo hi) := by
  unfold cutV cutD
  rw [dps_len h]
  exact dps_take _ (dps_drop _ h)
theorem cut_whole {xs : List D} {lo hi : Option Int} (h : HT.sIx xs.length 0 lo = 0 ∧ HT.sIx xs.length xs.length hi = xs.length) : cutD xs lo hi = xs := by
  unfold cutD
  rw [h.1, h.2]
  simp
theorem ev_cut {lo hi : Option Expr} {p2 : Pos} {fa : ExP} {fl fh : ExH} (ha : OV X T a fa) (hl : HV X T lo fl) (hh : HV X T hi fh) : EV X T (.Subscript a (.Slice lo hi none p2) pos) (eCut fa fl fh) := by
  obtain ⟨ta, pa, ha⟩ := ha
  obtain ⟨tl, pl, hl⟩ := hl
  obtain ⟨th, ph, hh⟩ := hh
  refine ⟨_, pe_slice canSl_ok pa pl ph, fun env o env' hf G σ H L Lx hR hS Q hQ => ?_⟩
  unfold eCut at hf
  obtain ⟨⟨r, env1⟩, e1, hf⟩ := bind_eq hf
  obtain ⟨⟨lo', env2⟩, e2, hf⟩ := bind_eq hf
  obtain ⟨⟨hi', env3⟩, e3, hf⟩ := bind_eq hf
  obtain ⟨x, e4, hf⟩ := bind_eq hf
  obtain ⟨z, e5, hf⟩ := bind_eq hf
  cases hf
  refine ha env r env1 e1 G σ H L Lx hR hS _ fun G1 v H1 L1 Lo s1 o1 R1 S1 => ?_
  refine hl env1 lo' env2 e2 G1 σ H1 L1 (Lo ++ Lx) R1 S1.comm3 _ fun G2 H2 L2 s2 R2 S2 => ?_
  refine hh env2 hi' env3 e3 G2 σ H2 L2 (Lo ++ Lx) R2 S2 _ fun G3 H3 L3 s3 R3 S3 => ?_
  obtain ⟨cx, ox, mx⟩ := res_of (o1.mono (s2.trans s3)) R3 e4
  have S3' : Sep T G3 H3 (Lo ++ (L3 ++ Lx)) := Sep.comm3 S3
  have mx' : ∀ c ∈ cx, c ∈ Lo ++ (L3 ++ Lx) := fun c hc => by
    rcases List.mem_append.mp (mx c hc) with q | q
    · exact List.mem_append_left _ q
    · exact List.mem_append_right _ (List.mem_append_left _ q)
  have s13 := (s1.trans s2).trans s3
  have SL : Sep T G3 H3 (L3 ++ Lx) := S3'.sub .drop
  have lst : ∀ {xs : List D}, oLst x = some xs → o = .l (cutD xs lo' hi') → canSl X v lo' hi' H3 Q := fun {xs} hx hz => by
    subst hz
    obtain ⟨p, vs, rfl, hp, hq⟩ := lst_of ox mx' S3' hx
    exact ⟨_, sl_list, p, vs, rfl, hp, fun q hq2 => hQ G3 _ _ L3 [(q, .lst (cutV vs lo' hi'))] s13 (.l (dps_cut hq)) R3 (SL.owned hq2)⟩
  unfold gCut at e5
  split at e5
  · exact lst rfl (by cases e5; rfl)
  · exact lst rfl (by cases e5; rfl)
  · split at e5
    · cases e5
      cases ox with
      | d ox =>
        cases ox with
        | @tup p vs _ h hs =>
          refine ⟨_, sl_tupA, p, vs, rfl, same_tup S3.same h, fun hw => ?_, fun hw q hq2 => ?_⟩
          · rw [dps_len hs] at hw
            rw [cut_whole hw] at hQ
            exact hQ G3 _ H3 L3 [] s13 (.d (.tup h hs)) R3 SL
          · have m := same_new (o := .tup (cutV vs lo' hi')) (S3.fresh hq2).1
            exact hQ _ _ _ L3 [] (s13.trans m) (.d (.tup upd_same (dps_mono m _ _ (dps_cut hs)))) (rel_mono m R3) (SL.frozen hq2)
    · cases e5
  · cases e5
theorem dps_rev {K : PySem.W.Frag} {G : Hp} : ∀ {vs : List V} {ds : List D}, DqAll K G vs ds → DqAll K G vs.reverse ds.reverse
  | _, _, .nil => .nil
  | _, _, .cons h hs => by
    rw [List.reverse_cons, List.reverse_cons]
    exact dps_app (dps_rev hs) (.cons h .nil)
theorem ev_rev {k : Nat} {p1 p2 p3 : Pos} {fa : ExP} (ha : OV X T a fa) : EV X T (.Subscript a (.Slice none none (some (.UnaryOp .USub (.Constant (.int 1) k p1) p2)) p3) pos) (eOp1 gRev fa) := by
  refine ev_of1 (r := fun x H Q => ∃ a xs, x = .ref a ∧ SqL X.K H a xs ∧ ∀ p, H p = none → Q (.ref p) (upd H p (.lst xs.reverse))) ?_ ha fun {ta} pa => ⟨fun pins s σ H Q I h => (pe_revL pa).run pins s σ H Q I h⟩
  intro G H L x z vx cx ox mx S ez Q hQ
  unfold gRev at ez
  obtain ⟨xs, e1, ez⟩ := bind_eq ez
  cases ez
  obtain ⟨p, vs, rfl, hp, hq⟩ := lst_of ox mx S e1
  have rv := dps_rev hq
  exact ⟨p, vs, rfl, hp, fun q hq2 => hQ G _ _ [(q, .lst vs.reverse)] (.refl _) (.l rv) (S.owned hq2)⟩
/-! ### two ints -/
theorem ev_b2 {x : Str} {p : Pos} {id : String} {g : O → O → Option O} {fa fb : ExP} (hg : Op2 X T (fun v u H Q => canC X (.builtin id) [v, u] H Q) g) (hm : X.mg x = none) (ha : OV X T a fa) (hb : OV X T b fb) (hv : bootBuiltins x = some (.builtin id) := by decide +kernel) (hgl : Gl X x := by rfl) (hn : x ≠ "__name__" := by decide)
    (hdb : (x == ("__debug__" : Str)) = false := by decide) (he : starEach [a, b] X.env = (false, eval a X.env) :: starEach [b] X.env := by rfl) (he2 : starEach [b] X.env = (false, eval b X.env) :: starEach [] X.env := by rfl) (hpl : (backTo pos (starEach [b] X.env)).any (·.1) = false := by rfl) : EV X T (.Call (.Name x p) [a, b] [] pos) (eOp2 g fa fb) :=
  ev_of2 hg ha hb fun {ta tb} pa pb => ⟨fun pins s σ H Q I h => (pe_callB canC_ok hgl hm hv (pa_cons pa (pa_cons pb pa_nil he2) he) hn hdb he hpl).run pins s σ H Q I h⟩
theorem b2_int {id : String} {g : O → O → Option O} {h : Int → Int → Int} (hr : CallR X (.builtin id) (fun xs H Q => ∃ i j, xs = [.int i, .int j] ∧ Q (.int (h i j)) H))
    (hg : ∀ x y z, g x y = some z → ∃ i j, x = .d (.int i) ∧ y = .d (.int j) ∧ z = .d (.int (h i j))) : Op2 X T (fun v u H Q => canC X (.builtin id) [v, u] H Q) g := by
  intro G H L x y z vx vy cx cy ox oy mx my S ez Q hQ
  obtain ⟨i, j, rfl, rfl, rfl⟩ := hg x y z ez
  cases ox with
  | d ox =>
    cases oy with
    | d oy =>
      cases ox
      cases oy
      exact can_of hr ⟨i, j, rfl, hQ G _ H [] (.refl _) (.d (.int _)) S⟩
theorem o2_max (hc : X.calm = true) : Op2 X T (fun v u H Q => canC X (.builtin "max") [v, u] H Q) gMax2 := b2_int (call_max2 hc) fun x y z e => by
  unfold gMax2 at e
  split at e
  · cases e
    exact ⟨_, _, rfl, rfl, rfl⟩
  · cases e
theorem o2_min (hc : X.calm = true) : Op2 X T (fun v u H Q => canC X (.builtin "min") [v, u] H Q) gMin2 := b2_int (call_min2 hc) fun x y z e => by
  unfold gMin2 at e
  split at e
  · cases e
    exact ⟨_, _, rfl, rfl, rfl⟩
  · cases e
theorem o1_abs : Op1 X T (fun v H Q => canC X (.builtin "abs") [v] H Q) gAbs := by
  intro G H L x z vx cx ox mx S ez Q hQ
  unfold gAbs at ez
  split at ez
  · cases ez
    cases ox with
    | d ox =>
      cases ox
      exact can_of call_abs ⟨_, rfl, hQ G _ H [] (.refl _) (.d (.int _)) S⟩
  · cases ez
theorem o1_sum (hc : X.calm = true) : Op1 X T (fun v H Q => canC X (.builtin "sum") [v] H Q) gSum := by
  intro G H L x z vx cx ox mx S ez Q hQ
  unfold gSum at ez
  obtain ⟨xs, e1, ez⟩ := bind_eq ez
  obtain ⟨ns, e2, ez⟩ := bind_eq ez
  cases ez
  obtain ⟨p, vs, rfl, hp, hq⟩ := lst_of ox mx S e1
  have := ints_dps e2 hq
  subst this
  exact can_of (cr_sum hc) ⟨p, ns, rfl, hp, hQ G _ H [] (.refl _) (.d (.int _)) S⟩
/-! ### sorted -/
theorem each_of {K : PySem.W.Frag} {G H : Hp} {pins : List (Addr × Obj)} {σ : St} {s : Shared} (I : Inv X pins σ H s) (m : Same G H) : ∀ {vs : List V} {ds : List D} {us : List Value}, DqAll X.K G vs ds → noDs ds = true → Vals vs us →
    PySem.W.EachIs (fun u d => ∃ v, RelV v u ∧ Dq X.K G v d) us ds ∧ PySem.W.EachIs (fun u d => ∃ as, Reads s.heap u (id d) as) us ds
  | _, _, _, .nil, _, .nil => ⟨.nil, .nil⟩
  | _, _, _, .cons h hs, n, .cons r rs => by
    rw [noDs, Bool.and_eq_true] at n
    obtain ⟨a1, a2⟩ := each_of (K := K) I m hs n.2 rs
    exact ⟨.cons ⟨_, r, h⟩ a1, .cons (Dp.reads I _ _ _ ((dp_mono m _ _ h).dp n.1) r) a2⟩
theorem each_back {K : PySem.W.Frag} {G : Hp} : ∀ {us : List Value} {ds : List D}, PySem.W.EachIs (fun u d => ∃ v, RelV v u ∧ Dq K G v d) us ds → ∃ vs, Vals vs us ∧ DqAll K G vs ds
  | _, _, .nil => ⟨[], .nil, .nil⟩
  | _, _, .cons ⟨v, r, h⟩ t => by
    obtain ⟨vs, a, b⟩ := each_back t
    exact ⟨v :: vs, .cons r a, .cons h b⟩
theorem allAlike_of {ds : List D} (h : allAlikeB ds = true) : PySem.W.AllAlike (ds.map id) := by
  rw [List.map_id]
  unfold allAlikeB at h
  rw [List.all_eq_true] at h
  intro d hd d' hd'
  exact List.all_eq_true.mp (h d hd) d' hd'
theorem sortable_of {ds : List D} (h : sortableB ds = true) : PySem.W.Sortable (ds.map id) := by
  rw [List.map_id]
  unfold sortableB at h
  rw [Bool.or_eq_true, List.all_eq_true, List.all_eq_true] at h
  rcases h with h | h
  · refine .inl fun d hd => ?_
    have := h d hd
    split at this
    · exact ⟨_, _, rfl⟩
    · cases this
  · refine .inr fun d hd => ?_
    have := h d hd
    constructor
    · rintro rfl
      cases this
    · rintro xs rfl
      cases this
theorem o1_sorted {k : Nat} (hr : Room k X.A) : Op1 X T (fun v H Q => canC X (.builtin "sorted") [v] H Q) gSorted := by
  intro G H L x z vx cx ox mx S ez Q hQ
  unfold gSorted at ez
  obtain ⟨xs, e1, ez⟩ := bind_eq ez
  split at ez
  · rename_i hc
    cases ez
    obtain ⟨h1, h2, h3, h4, h5⟩ := hc
    obtain ⟨p, vs, rfl, hp, hq⟩ := lst_of ox mx S e1
    intro pins s σ us I rv
    obtain ⟨u, rfl, ru⟩ := vals1 rv
    cases ru
    obtain ⟨its, r, pl, hz⟩ := I.list hp
    obtain ⟨q1, q2⟩ := each_of (K := X.K) I S.same hq h5 r
    have hlen := dps_len hq
    have hll := line_ge
    refine PySem.W.sorted_data (bs := xs) (enc := id) pl.isList q1 q2 (allAlike_of h1) (sortable_of h2) (by omega) (fun d hd => ?_) fun out ho hout => ?_
    · have hd64 : d.depth ≤ 64 := of_decide_eq_true (List.all_eq_true.mp h4 d hd)
      have := hr.un
      show X.A.units + 2 + d.depth < cLine
      omega
    · obtain ⟨ws, w1, w2⟩ := each_back hout
      obtain ⟨c', hc'⟩ := sortedAll_at s.heap its out.toArray
      have hpn : s.heap.objs.size ≤ s.heap.objs.size + 1 := Nat.le_succ _
      have hfr : H (s.heap.objs.size + 1) = none := I.hok.fresh hpn
      have hwl : ws.length ≤ sizeLine := by
        have h6 := w1.length
        omega
      exact ⟨.ref (s.heap.objs.size + 1), upd H (s.heap.objs.size + 1) (.lst ws), I.laid (t' := s.toks) (fun b o e => sortedAll_old e) hpn ⟨hwl, out, c', w1, hc'⟩, rfl, hQ G _ _ [(s.heap.objs.size + 1, .lst ws)] (.refl _) (.l w2) (S.owned hfr)⟩
  · cases ez
end
end Sh

/-! Shift layer: >, <=, >= of ints and of tuples of ints. -/
namespace Sh
open PySem PySem.Spec PyProof.Rows L2
theorem lexLt_dec : ∀ xs ys : List Int, HT.lexLt xs ys = decide (xs < ys)
  | [], [] => by simp [HT.lexLt]
  | [], y :: ys => by simp [HT.lexLt]
  | x :: xs, [] => by simp [HT.lexLt]
  | x :: xs, y :: ys => by
    unfold HT.lexLt
    by_cases h : x = y
    · subst h
      rw [if_pos rfl, lexLt_dec xs ys]
      simp [List.cons_lt_cons_iff]
    · rw [if_neg h]
      simp [List.cons_lt_cons_iff, h]
theorem dataLt_rows (ns ms : List Int) : PySem.W.dataLt (.tuple (ns.map .int)) (.tuple (ms.map .int)) = HT.lexLt ns ms := by
  rw [PySem.W.dataLt_tuple, lexLt_dec, ← PySem.W.dataLt_ints]
  rfl
theorem alike_rows : ∀ ns ms : List Int, PySem.W.alikeAll (ns.map .int) (ms.map .int) = true
  | [], _ => by simp [PySem.W.alikeAll]
  | _ :: _, [] => by simp [PySem.W.alikeAll]
  | n :: ns, m :: ms => by
    rw [List.map_cons, List.map_cons, PySem.W.alikeAll, alike_rows ns ms]
    simp [PySem.W.alike]
theorem depth_rows : ∀ ns : List Int, PyData.depthAll (ns.map .int) = 0
  | [] => by simp [PyData.depthAll]
  | n :: ns => by
    rw [List.map_cons, PyData.depthAll, depth_rows ns]
    simp [PyData.depth]
section
variable {X : Cx} {T : TabsT}
/-- the two tuples of ints, read -/
def rRow2 (K : PySem.W.Frag) (f : List Int → List Int → Bool) : R2 := fun x y H Q => ∃ ns ms, Dp K H x (.tuple (ns.map .int)) ∧ Dp K H y (.tuple (ms.map .int)) ∧ Q (.bl (f ns ms)) H
theorem row_depth {A : Around} {k : Nat} (hr : Room k A) (ns ms : List Int) : A.units + min (PyData.depth (.tuple (ns.map .int))) (PyData.depth (.tuple (ms.map .int))) < cLine := by
  rw [PyData.depth, PyData.depth, depth_rows, depth_rows]
  have := hr.un
  omega
theorem row_alike (ns ms : List Int) : PySem.W.alike (.tuple (ns.map .int)) (.tuple (ms.map .int)) = true := by
  rw [PySem.W.alike]
  exact alike_rows ns ms
theorem op_gtRow {k : Nat} (hr : Room k X.A) : OpR X (compareOp .Gt) (rRow2 X.K fun ns ms => HT.lexLt ms ns) := by
  intro pins s σ H x y v u Q I rx ry h
  obtain ⟨ns, ms, hx, hy, q⟩ := h
  obtain ⟨as, ra⟩ := Dp.reads I _ _ _ hx rx
  obtain ⟨bs, rb⟩ := Dp.reads I _ _ _ hy ry
  exact PySem.W.gt_data ra rb (row_alike ns ms) (fun z => nomatch z) (row_depth hr ns ms) ⟨_, H, I, by rw [dataLt_rows]; rfl, q⟩
theorem op_leRow {k : Nat} (hr : Room k X.A) : OpR X (compareOp .LtE) (rRow2 X.K fun ns ms => !HT.lexLt ms ns) := by
  intro pins s σ H x y v u Q I rx ry h
  obtain ⟨ns, ms, hx, hy, q⟩ := h
  obtain ⟨as, ra⟩ := Dp.reads I _ _ _ hx rx
  obtain ⟨bs, rb⟩ := Dp.reads I _ _ _ hy ry
  exact PySem.W.le_data ra rb (row_alike ns ms) (fun z => nomatch z) (row_depth hr ns ms) ⟨_, H, I, by rw [dataLt_rows]; rfl, q⟩
theorem op_geRow {k : Nat} (hr : Room k X.A) : OpR X (compareOp .GtE) (rRow2 X.K fun ns ms => !HT.lexLt ns ms) := by
  intro pins s σ H x y v u Q I rx ry h
  obtain ⟨ns, ms, hx, hy, q⟩ := h
  obtain ⟨as, ra⟩ := Dp.reads I _ _ _ hx rx
  obtain ⟨bs, rb⟩ := Dp.reads I _ _ _ hy ry
  exact PySem.W.ge_data ra rb (row_alike ns ms) (fun z => nomatch z) (row_depth hr ns ms) ⟨_, H, I, by rw [dataLt_rows]; rfl, q⟩
theorem intsOf_map : ∀ {xs : List D} {ns : List Int}, intsOf xs = some ns → xs = ns.map .int
  | [], _, e => by
    cases e
    rfl
  | .int i :: r, ns, e => by
    unfold intsOf at e
    obtain ⟨ms, e1, e2⟩ := bind_eq e
    cases e2
    rw [intsOf_map e1]
    rfl
  | .none :: _, _, e => by simp [intsOf] at e
  | .bool _ :: _, _, e => by simp [intsOf] at e
  | .str _ :: _, _, e => by simp [intsOf] at e
  | .list _ :: _, _, e => by simp [intsOf] at e
  | .tuple _ :: _, _, e => by simp [intsOf] at e
  | .dict _ :: _, _, e => by simp [intsOf] at e
theorem noDs_ints : ∀ ns : List Int, noDs (ns.map .int) = true
  | [] => by simp [noDs]
  | n :: ns => by
    rw [List.map_cons, noDs, noDs_ints ns]
    simp [noD]
theorem row_dp {K : PySem.W.Frag} {G H : Hp} {L : List Cell} {xs : List D} {ns : List Int} {v : V} {c : List Cell} (o : OT K G (.d (.tuple xs)) v c) (S : Sep T G H L) (e : intsOf xs = some ns) : Dp K H v (.tuple (ns.map .int)) := by
  cases o with
  | d o =>
    rw [intsOf_map e] at o
    exact (dp_mono S.same _ _ o).dp (by rw [noD]; exact noDs_ints ns)
theorem c2_gt {k : Nat} (hr : Room k X.A) : Cmp2 X T .Gt gGt := by
  intro G H L x y k vx vy cx cy ox oy mx my S e
  unfold gGt at e
  split at e
  · cases e
    cases ox with
    | d ox =>
      cases oy with
      | d oy =>
        cases ox
        cases oy
        exact ⟨_, op_gt, fun Q q => ⟨_, _, rfl, rfl, q⟩⟩
  · obtain ⟨ns, e1, e⟩ := bind_eq e
    obtain ⟨ms, e2, e⟩ := bind_eq e
    cases e
    exact ⟨_, op_gtRow hr, fun Q q => ⟨ns, ms, row_dp ox S e1, row_dp oy S e2, q⟩⟩
  · cases e
theorem c2_le {k : Nat} (hr : Room k X.A) : Cmp2 X T .LtE gLe := by
  intro G H L x y k vx vy cx cy ox oy mx my S e
  unfold gLe at e
  split at e
  · cases e
    cases ox with
    | d ox =>
      cases oy with
      | d oy =>
        cases ox
        cases oy
        exact ⟨_, op_le, fun Q q => ⟨_, _, rfl, rfl, q⟩⟩
  · obtain ⟨ns, e1, e⟩ := bind_eq e
    obtain ⟨ms, e2, e⟩ := bind_eq e
    cases e
    exact ⟨_, op_leRow hr, fun Q q => ⟨ns, ms, row_dp ox S e1, row_dp oy S e2, q⟩⟩
  · cases e
theorem c2_ge {k : Nat} (hr : Room k X.A) : Cmp2 X T .GtE gGe := by
  intro G H L x y k vx vy cx cy ox oy mx my S e
  unfold gGe at e
  split at e
  · cases e
    cases ox with
    | d ox =>
      cases oy with
      | d oy =>
        cases ox
        cases oy
        exact ⟨_, op_ge, fun Q q => ⟨_, _, rfl, rfl, q⟩⟩
  · obtain ⟨ns, e1, e⟩ := bind_eq e
    obtain ⟨ms, e2, e⟩ := bind_eq e
    cases e
    exact ⟨_, op_geRow hr, fun Q q => ⟨ns, ms, row_dp ox S e1, row_dp oy S e2, q⟩⟩
  · cases e
/-! ### x in ys -/
theorem room65 {k : Nat} {A : Around} (r : Room k A) : A.units + 65 < cLine := by have := r.un; omega
mutual
theorem noD_plain : ∀ d : D, d.plain = true → noD d = true
  | .none, _ => by simp [noD]
  | .bool _, _ => by simp [noD]
  | .int _, _ => by simp [noD]
  | .str _, _ => by simp [noD]
  | .list xs, h => by
    rw [noD]
    rw [PyData.plain] at h
    exact noDs_plain xs h
  | .tuple xs, h => by
    rw [noD]
    rw [PyData.plain] at h
    exact noDs_plain xs h
  | .dict _, h => by
    rw [PyData.plain] at h
    cases h
theorem noDs_plain : ∀ ds : List D, PyData.plainAll ds = true → noDs ds = true
  | [], _ => by simp [noDs]
  | x :: xs, h => by
    rw [PyData.plainAll, Bool.and_eq_true] at h
    rw [noDs, noD_plain x h.1, noDs_plain xs h.2]
    rfl
end
def rInT (K : PySem.W.Frag) (f : Bool → Bool) : R2 := fun x y H Q => ∃ (d : D) (ds : List D), Dp K H x d ∧ Dp K H y (.tuple ds) ∧ d.plain = true ∧ PyData.plainAll ds = true ∧ d.depth ≤ 64 ∧ Q (.bl (f (ds.any fun z => PyData.eqv z d))) H
theorem op_inTup (hu : X.A.units + 65 < cLine) : OpR X (compareOp .In) (rInT X.K id) := by
  intro pins s σ H x y v u Q I rx ry h
  obtain ⟨d, ds, hx, hy, p1, p2, p3, q⟩ := h
  obtain ⟨as, ra⟩ := Dp.reads I _ _ _ hx rx
  obtain ⟨bs, rb⟩ := Dp.reads I _ _ _ hy ry
  exact PySem.SeqAt.in_tuple_data rb ra p2 p1 (by omega) ⟨.bl _, H, I, rfl, q⟩
theorem op_notInTup (hu : X.A.units + 65 < cLine) : OpR X (compareOp .NotIn) (rInT X.K not) := by
  intro pins s σ H x y v u Q I rx ry h
  obtain ⟨d, ds, hx, hy, p1, p2, p3, q⟩ := h
  obtain ⟨as, ra⟩ := Dp.reads I _ _ _ hx rx
  obtain ⟨bs, rb⟩ := Dp.reads I _ _ _ hy ry
  exact PySem.SeqAt.notIn_tuple_data rb ra p2 p1 (by omega) ⟨.bl _, H, I, rfl, q⟩
theorem c2_in {k : Nat} (hr : Room k X.A) : Cmp2 X T .In gIn := by
  intro G H L x y k vx vy cx cy ox oy mx my S e
  unfold gIn at e
  split at e
  · obtain ⟨a, ea, e⟩ := bind_eq e
    split at e
    · rename_i hs
      cases e
      cases oy with
      | d oy => exact ⟨_, op_inTup (room65 hr), fun Q q => ⟨a, _, (dat_of ox mx S ea).dp (noD_plain a hs.1), (dp_mono S.same _ _ oy).dp (by rw [noD]; exact noDs_plain _ hs.2.1), hs.1, hs.2.1, hs.2.2, q⟩⟩
    · cases e
  · obtain ⟨a, ea, e⟩ := bind_eq e
    obtain ⟨b, eb, e⟩ := bind_eq e
    split at e
    · rename_i hs
      cases e
      obtain ⟨p, vs, rfl, hp, hq⟩ := lst_of oy my S eb
      exact ⟨_, op_inD (room65 hr), fun Q q => ⟨a, b, (dat_of ox mx S ea).dp (noD_shaped hs.1), .lst hp ((dps_mono S.same _ _ hq).dp (by have := noD_shaped hs.2; rw [noD] at this; exact this)), hs.1, hs.2, q⟩⟩
    · cases e
theorem c2_notin {k : Nat} (hr : Room k X.A) : Cmp2 X T .NotIn gNotIn := by
  intro G H L x y k vx vy cx cy ox oy mx my S e
  unfold gNotIn gIn at e
  obtain ⟨k', e1, e2⟩ := bind_eq e
  cases e2
  clear e
  have e := e1
  clear e1
  split at e
  · obtain ⟨a, ea, e⟩ := bind_eq e
    split at e
    · rename_i hs
      cases e
      cases oy with
      | d oy => exact ⟨_, op_notInTup (room65 hr), fun Q q => ⟨a, _, (dat_of ox mx S ea).dp (noD_plain a hs.1), (dp_mono S.same _ _ oy).dp (by rw [noD]; exact noDs_plain _ hs.2.1), hs.1, hs.2.1, hs.2.2, q⟩⟩
    · cases e
  · obtain ⟨a, ea, e⟩ := bind_eq e
    obtain ⟨b, eb, e⟩ := bind_eq e
    split at e
    · rename_i hs
      cases e
      obtain ⟨p, vs, rfl, hp, hq⟩ := lst_of oy my S eb
      exact ⟨_, op_notInD (room65 hr), fun Q q => ⟨a, b, (dat_of ox mx S ea).dp (noD_shaped hs.1), .lst hp ((dps_mono S.same _ _ hq).dp (by have := noD_shaped hs.2; rw [noD] at this; exact this)), hs.1, hs.2, q⟩⟩
    · cases e
end
end Sh

/-! Shift layer: `{}` that never changes; a range as a value. -/
namespace Sh
open PySem PySem.Spec PyProof.Rows L2
section
variable {X : Cx} {T : TabsT} {pos : Pos}
/-- `{}` as a value that nobody changes -/
theorem ev_dct : EV X T (.Dict [] [] pos) (eC (.dict [])) := ⟨_, pe_dnewK, fun env o env' hf G σ H L Lx hR hS Q hQ => by
  cases hf
  intro p hp
  have m := same_new (o := .dK []) (hS.fresh hp).1
  exact hQ _ (.ref p) _ L [] m (.d (.dcK upd_same .nil)) (rel_mono m hR) (hS.frozen hp)⟩
theorem cr_range1 : CallR X (.type "range") (fun vs H Q => ∃ i, vs = [V.int i] ∧ ∀ p, H p = none → Q (.ref p) (upd H p (.rng 0 i))) := by
  intro pins s σ H vs us Q I r h
  obtain ⟨i, rfl, q⟩ := h
  obtain ⟨u1, rfl, ri⟩ := vals1 r
  obtain ⟨t, rfl⟩ := ri
  refine call_range_1 ⟨.ref s.heap.objs.size, upd H s.heap.objs.size (.rng 0 i), I.laid (t' := s.toks + 2) (fun b o e => Heap.get?_push_of_some _ e) (Nat.le_refl _) ?_, rfl, q _ (I.hok.fresh (Nat.le_refl _))⟩
  exact ⟨_, _, _, Heap.get?_push_size _ rfl⟩
@[simp] def gRng : O → Option O
  | .d (.int n) => if -1000000 ≤ n ∧ n ≤ 1000000 then some (.d (.dict [(.none, .int 0), (.none, .int n)])) else none
  | _ => none
theorem o1_rng : Op1 X T (fun v H Q => canC X (.type "range") [v] H Q) gRng := by
  intro G H L x z vx cx ox mx S ez Q hQ
  unfold gRng at ez
  split at ez
  · split at ez
    · cases ez
      cases ox with
      | d ox =>
        cases ox
        rename_i n _
        refine can_of cr_range1 ⟨_, rfl, fun p hp => ?_⟩
        have m := same_new (o := .rng 0 n) (S.fresh hp).1
        exact hQ _ _ _ [] m (.d (.rng upd_same)) (S.frozen hp)
    · cases ez
  · cases ez
/-- the slot's range -/
@[simp] def iRngV (j : Nat) : ExI := fun e => match slot e j with
  | some (.d (.dict [(.none, .int lo), (.none, .int hi)])) => if -1000000 ≤ lo ∧ lo ≤ 1000000 ∧ -1000000 ≤ hi ∧ hi ≤ 1000000 then some (rangeD lo hi, e) else none
  | _ => none
theorem rv_var {x : Str} (j : Nat) (hN : X.N[j]? = some x := by rfl) (hv : Vis X.env.scope x := by first | exact Or.inl rfl | exact Or.inr (Or.inl rfl) | exact Or.inr (Or.inr rfl)) (hd : (x == ("__debug__" : Str)) = false := by decide)
    (hcd : (x == ("__classdict__" : Str)) = false := by decide) : RV X T (.Name x pos) (iRngV j) := by
  refine ⟨fun σ H Q => ∃ p a b, σ[j]? = some (some (V.ref p)) ∧ H p = some (.rng a b) ∧ Q a b H, ?_, fun env ds env' hf G σ H L Lx hR hS Q hQ => ?_⟩
  · intro pins s σ H Q I ⟨p, a, b, h1, h2, h3⟩
    refine thn ((pe_var hN hv hd hcd).run pins s σ H (fun x H' => x = .ref p ∧ H' = H) I ⟨.ref p, h1, rfl, rfl⟩) fun v s1 ⟨x, H1, I1, r1, ex, eh⟩ => ?_
    subst ex
    subst eh
    obtain rfl : v = Value.ref p := r1
    obtain ⟨t1, t2, t3, ho⟩ := I1.hok p _ h2
    exact ⟨p, a, b, t1, t2, t3, _, rfl, ho, I1, h3⟩
  · unfold iRngV at hf
    split at hf
    · rename_i lo hi es
      split at hf
      · rename_i hb
        cases hf
        obtain ⟨v, c, h1, h2, h3⟩ := rel_get hR es
        cases h2 with
        | d h2 =>
          cases h2 with
          | dcK _ hs => exact (dqk_none hs).elim
          | rng h2 => exact ⟨_, lo, hi, h1, hS.same _ _ h2, hQ G H L lo hi (.refl _) hR hS rfl hb⟩
      · cases hf
    · cases hf
end
end Sh

/-! Shift layer 11: enumerate and zip. -/
namespace PySem
open Sem (wp)
open AutoSeq1 (wpAny_loadPart')
theorem sh_meets_enumT (l : Addr) (items : Array Value) (n : Nat) (dct : Option Addr) (sl : Array (Option Value)) :
    Meets (Builtin.«enumerate.__new__» ⟨[.type "enumerate", .ref l], []⟩) (fun _ R s => s.heap.get? l = some { cls := .type "tuple", dict := dct, data := .seq items n, slots := sl } ∧
      R (.ok (.ret (.ref (s.heap.push { cls := .type "tuple_iterator", data := .fields #[.ref l, .int 0 0] }).objs.size)))
        { s with heap := (s.heap.push { cls := .type "tuple_iterator", data := .fields #[.ref l, .int 0 0] }).push { cls := .type "enumerate", data := .fields #[.none, .bool false, .ref s.heap.objs.size, rawInt 0, .none, .none] } }) :=
  .of_wp fun prog w A R s h => by
    obtain ⟨hp, g, d, tk, os⟩ := s
    obtain ⟨hl, h⟩ := h
    have hsub := sub_enumerate
    have hT : Heap.IsTuple (Shared.heap ⟨hp, g, d, tk, os⟩) l items := ⟨_, hl, rfl, n, rfl⟩
    wp_walk using wpAny_loadPart' hl
    refine wpAny_stack_any fun st => wpAny_pure ?_
    split
    · rename_i c _ _ _ _ _
      cases (c == Value.type "enumerate")
      · wp_walk using wpAny_loadPart' hl, wpAny_pyIter_tuple hT
        exact ⟨_, rfl, h⟩
      · wp_walk using wpAny_loadPart' hl, wpAny_pyIter_tuple hT
        exact ⟨_, rfl, h⟩
    · wp_walk using wpAny_loadPart' hl, wpAny_pyIter_tuple hT
      exact ⟨_, rfl, h⟩
section
variable {prog : Program} {w : World} {A : Around} {E : Value → Shared → Prop} {s : Shared}
theorem sh_call_enumT {l : Addr} {items : Array Value} {Q : Value → Shared → Prop} (hT : s.heap.IsTuple l items)
    (h : ∀ h', IsEnum h' (s.heap.objs.size + 1) s.heap.objs.size 0 .none → h'.IsTupleIter s.heap.objs.size l 0 →
      (∀ b o, s.heap.get? b = some o → h'.get? b = some o) → Q (.ref (s.heap.objs.size + 1)) { s with heap := h' }) :
    wpAny (model prog w) A (call (.type "enumerate") [.ref l]) Q E s := by
  obtain ⟨⟨c, dct, dt, sl⟩, hl, hc, n, hd⟩ := hT
  replace hc : c = .type "tuple" := hc
  replace hd : dt = .seq items n := hd
  subst hc hd
  refine callType_new F.called_enumerate (by decide) (F.typeCall_enumerate_1 _) (F.newCall_enumerate_1 _) (fun obj => F.args_object_init_2 obj _) F.entry_enumerate_new (sh_meets_enumT l items n dct sl) ⟨hl, ?_⟩
  have hz : (s.heap.push { cls := .type "tuple_iterator", data := .fields #[.ref l, .int 0 0] }).objs.size = s.heap.objs.size + 1 := Heap.size_push ..
  show _ ∧ _
  rw [hz]
  have he : IsEnum ((s.heap.push { cls := .type "tuple_iterator", data := .fields #[.ref l, .int 0 0] }).push { cls := .type "enumerate", data := .fields #[.none, .bool false, .ref s.heap.objs.size, rawInt 0, .none, .none] }) (s.heap.objs.size + 1) s.heap.objs.size 0 .none := by
    have := Heap.get?_push_size (s.heap.push { cls := .type "tuple_iterator", data := .fields #[.ref l, .int 0 0] }) (o := { cls := .type "enumerate", data := .fields #[.none, .bool false, .ref s.heap.objs.size, rawInt 0, .none, .none] }) rfl
    rw [hz] at this
    exact this
  exact ⟨⟨_, he, rfl⟩, h _ he ⟨_, Heap.get?_push_of_some _ (Heap.get?_push_size _ rfl), rfl, rfl⟩ fun b o x => Heap.get?_push_of_some _ (Heap.get?_push_of_some _ x)⟩
end
end PySem
namespace Sh
open PySem PySem.Spec PyProof.Rows L2
/-- the tuple at a, its items in new pairs with their places -/
def IteT (K : PySem.W.Frag) (a : Addr) : It :=
  ⟨fun i H => ∃ (xs : List V) (x : V), SqT K H a xs ∧ xs[i]? = some x, fun i H v H' => ∃ T x, v = .ref T ∧ H T = none ∧ H' = upd H T (.tup [.int (i : Nat), x]) ∧ ∀ xs, SqT K H a xs → xs[i]? = some x, fun i H => ∃ xs : List V, SqT K H a xs ∧ i = xs.length⟩
theorem turn_enumT {P : Program} {w : World} {K : PySem.W.Frag} {elts : List Expr} {kk : Nat} {tpos : Pos} (a e it : Addr) :
    Turn P w K (.Tuple elts kk tpos) (IteT K a) [e, it] e (fun i h => (∃ old, IsEnum h e it ((i : Nat) : Int) old) ∧ h.IsTupleIter it a i ∧ e ≠ it ∧ a ≠ it ∧ e ≠ a) where
  mem := by simp
  obj := fun i h st b hb => by
    obtain ⟨⟨old, he⟩, ⟨o, ho, hc, hd⟩, _⟩ := st
    have e' : b = e ∨ b = it := by simpa using hb
    rcases e' with z | z
    · rw [z]
      exact ⟨_, he, fun v q => nomatch q⟩
    · rw [z]
      exact ⟨o, ho, fun v q => by rw [hd] at q; cases q⟩
  keep := fun i h h' st k => let ⟨⟨old, he⟩, hi, hne⟩ := st; ⟨⟨old, k e (by simp) _ he⟩, hi.at fun o q => k it (by simp) o q, hne⟩
  item := by
    intro X hP hw hK hc i pins s σ H E I hf st hg
    subst hP hw hK
    obtain ⟨⟨old, he⟩, hit, hne, hai, hea⟩ := st
    obtain ⟨xs, x, hq, hx⟩ := hg
    obtain ⟨its, rv, p, hz⟩ := I.tuple hq
    obtain ⟨u, hu, ru⟩ := rv.get hx
    have hel : e < s.heap.objs.size := Heap.lt_size he
    have hil : it < s.heap.objs.size := by
      obtain ⟨_, q, _⟩ := hit
      exact Heap.lt_size q
    have hu2 : its.toArray[i]? = some u := by simpa using hu
    have hlt : i < its.toArray.size := (Array.getElem?_eq_some_iff.mp hu2).1
    refine wpAny_pyNext_enum_itemD (Draws.tuple (A := X.A.in1) (by show X.A.handled = none; exact I.ok.hd hc) it a hai its.toArray) he ⟨hit, show s.heap.IsTuple a its.toArray from p⟩ hlt hne (by simp; exact ⟨hne, hea⟩) fun x' h' tk hPx ho hst' hT hsz hk => ?_
    have hx' : x' = u := Option.some.inj ((show its.toArray[i]? = some x' from hPx).symm.trans hu2)
    subst hx'
    obtain ⟨hit', _⟩ := hst'
    refine ⟨_, rfl, wpAny_letOwnedTupleGo_enum (s := { s with heap := h', toks := tk + 1 }) ho fun h'' he' sb => ?_⟩
    have hT2 : h''.get? s.heap.objs.size = some { cls := .type "tuple", data := .seq #[.int i tk, x'] } := (sb.2 _ (Nat.ne_of_gt hel)).trans hT
    have new : ObjOk X.prog X.w (upd H s.heap.objs.size (.tup [.int (i : Nat), x])) h'' s.heap.objs.size (.tup [.int (i : Nat), x]) :=
      ⟨by show 2 ≤ sizeLine; decide, [.int i tk, x'], .cons ⟨_, rfl⟩ (.cons ru .nil), ⟨_, hT2, rfl, _, rfl⟩⟩
    have I1 : Inv X pins σ (upd H s.heap.objs.size (.tup [.int (i : Nat), x])) { s with heap := h'', toks := tk + 1 } :=
      I.turnedNew (ch := [e, it]) (fun b ob hb q => (sb.2 b (fun z => hb (by simp [z]))).trans (hk b ob (fun z => hb (by simp [z])) (fun z => hb (by simp [z])) q)) hf (Nat.le_refl _) new
    refine ⟨.ref s.heap.objs.size, _, I1, rfl, ⟨_, x, rfl, I.hok.fresh (Nat.le_refl _), rfl, fun ys hy => by rw [I.tuple_inj hy hq]; exact hx⟩, ⟨⟨x', ?_⟩, hit'.at fun o q => (sb.2 it (Ne.symm hne)).trans q, hne, hai, hea⟩, fun b hb => ?_⟩
    · have e1 : ((i + 1 : Nat) : Int) = (i : Int) + 1 := by omega
      rw [e1]
      exact he'
    · have hb' : b < s.heap.objs.size := by
        have e' : b = e ∨ b = it := by simpa using hb
        rcases e' with z | z
        · rw [z]; exact hel
        · rw [z]; exact hil
      rw [upd_ne (Nat.ne_of_lt hb')]
      exact (hf b hb).1
  done := by
    intro X hP hw hK hc i pins s σ H E I hf st hg
    subst hP hw hK
    obtain ⟨⟨old, he⟩, hit, hne, hai, hea⟩ := st
    obtain ⟨xs, hq, hx⟩ := hg
    obtain ⟨its, rv, p, hz⟩ := I.tuple hq
    obtain ⟨f0, f1, f2, f3, f4, f5⟩ := hf it (by simp)
    have hl := rv.length
    have hn : its.toArray.size = i := by
      rw [List.size_toArray]
      omega
    refine wpAny_pyNext_enum_endD (Draws.tuple (A := X.A.in1) (by show X.A.handled = none; exact I.ok.hd hc) it a hai its.toArray) he (by rw [hn]; exact ⟨hit, show s.heap.IsTuple a its.toArray from p⟩) fun h' eb => ⟨rfl, I.turned (t' := s.toks) (fun b o hb q => eb b o hb q) f0 f1 f3 f4 f5⟩
  self := fun A i s Q E st h => let ⟨⟨_, he⟩, _⟩ := st; wpAny_pyIter_enum he h
section
variable {X : Cx} {T : TabsT} {lk : Nat → Bool} {a b c e : Expr} {pos : Pos} {es : List Expr}
theorem pi_enumT {e : Expr} {ta : TA} {p pos tpos : Pos} {elts : List Expr} {kk : Nat} (hg : Gl X "enumerate") (hm : X.mg "enumerate" = none) (ha : PA X [e] ta) (hs : starEach [e] X.env = [(false, eval e X.env)] := by rfl) :
    PI X (.Tuple elts kk tpos) (.Call (.Name "enumerate" p) [e] [] pos) (fun σ H R => ta σ H fun vs H1 => ∃ a xs, vs = [.ref a] ∧ SqT X.K H1 a xs ∧ R (IteT X.K a) H1) := by
  refine ⟨fun pins s σ H R I h => ?_⟩
  refine Call_ (ld_blt I hg hm boot_enumerate (PyProof.Rows.callWith_type1 (thn (ha.run pos pins s σ H _ I h) fun us s1 ⟨vs, H1, I1, r1, q1⟩ => ?_) hs rfl))
  obtain ⟨a, xs, ex, hq, q⟩ := q1
  subst ex
  cases r1 with
  | cons r rr =>
    cases rr
    cases r
    obtain ⟨its, rv, p', hz⟩ := I1.tuple hq
    have hal : a < s1.heap.objs.size := by
      obtain ⟨o1, ho1, _⟩ := id p'
      exact Heap.lt_size ho1
    refine sh_call_enumT (show s1.heap.IsTuple a its.toArray from p') fun h' he hit hk => wpAny_pyIter_enum he ?_
    have I2 : Inv X pins σ H1 { s1 with heap := h' } := I1.kept (t' := s1.toks) hk
    refine ⟨s1.heap.objs.size + 1, [s1.heap.objs.size + 1, s1.heap.objs.size], _, _, H1, rfl, I2, turn_enumT a (s1.heap.objs.size + 1) s1.heap.objs.size, ⟨⟨.none, he⟩, hit, Nat.succ_ne_self _, Nat.ne_of_lt hal, Nat.ne_of_gt (Nat.lt_succ_of_lt hal)⟩, fun b hb => ?_, q⟩
    have e' : b = s1.heap.objs.size + 1 ∨ b = s1.heap.objs.size := by simpa using hb
    have hle : s1.heap.objs.size ≤ b := by
      rcases e' with z | z
      · rw [z]; exact Nat.le_add_right _ _
      · rw [z]; exact Nat.le_refl _
    exact I1.fpOk hle (I1.hok.fresh hle)
theorem enumD_get {xs : List D} {i : Nat} {d : D} (h : (enumD xs)[i]? = some d) : ∃ x, xs[i]? = some x ∧ d = .tuple [.int (i : Nat), x] := by
  unfold enumD at h
  rw [List.getElem?_map, List.getElem?_zipIdx] at h
  cases hx : xs[i]? with
  | none =>
    rw [hx] at h
    cases h
  | some x =>
    rw [hx] at h
    simp at h
    exact ⟨x, rfl, h.symm⟩
theorem enumD_len {xs : List D} : (enumD xs).length = xs.length := by simp [enumD]
theorem pair_new {K : PySem.W.Frag} {G H : Hp} {L : List Cell} {p : Addr} {x y : V} {d e : D} (S : Sep T G H L) (hp : H p = none) (h1 : Dq K G x d) (h2 : Dq K G y e) : ∃ G', Same G G' ∧ Dq K G' (.ref p) (.tuple [d, e]) ∧ Sep T G' (upd H p (.tup [x, y])) L := by
  have m := same_new (o := .tup [x, y]) (S.fresh hp).1
  exact ⟨_, m, .tup upd_same (.cons (dp_mono m _ _ h1) (.cons (dp_mono m _ _ h2) .nil)), S.frozen hp⟩
theorem walk_enum {K : PySem.W.Frag} {G0 : Hp} {p : Addr} {vs : List V} {ds : List D} (hp : SqL K G0 p vs) (hs : DqAll K G0 vs ds) : WalkD K T (Ite K p) (enumD ds) G0 := fun i G H L m S => by
  have h1 : SqL K H p vs := (m.trans S.same).seq hp
  refine ⟨fun d hd => ?_, fun hl => ⟨vs, h1, by rw [hl, enumD_len, dps_len hs]; exact Nat.le_refl _⟩⟩
  obtain ⟨x, hx, rfl⟩ := enumD_get hd
  obtain ⟨v, e1, e2⟩ := dps_get hs hx
  refine ⟨⟨vs, v, h1, e1⟩, fun x H' hy => ?_⟩
  obtain ⟨q, v', rfl, hq, rfl, hv⟩ := hy
  have e3 := hv vs h1
  rw [e1] at e3
  cases e3
  exact pair_new S hq (.int _) (dp_mono m _ _ e2)
theorem walk_enumT {K : PySem.W.Frag} {G0 : Hp} {p : Addr} {vs : List V} {ds : List D} (hp : G0 p = some (.tup vs)) (hs : DqAll K G0 vs ds) : WalkD K T (IteT K p) (enumD ds) G0 := fun i G H L m S => by
  have h1 : SqT K H p vs := same_tup (m.trans S.same) hp
  refine ⟨fun d hd => ?_, fun hl => ⟨vs, h1, by rw [hl, enumD_len, dps_len hs]⟩⟩
  obtain ⟨x, hx, rfl⟩ := enumD_get hd
  obtain ⟨v, e1, e2⟩ := dps_get hs hx
  refine ⟨⟨vs, v, h1, e1⟩, fun x H' hy => ?_⟩
  obtain ⟨q, v', rfl, hq, rfl, hv⟩ := hy
  have e3 := hv vs h1
  rw [e1] at e3
  cases e3
  exact pair_new S hq (.int _) (dp_mono m _ _ e2)
/-- a list that is known from now on -/
theorem lst_frz {K : PySem.W.Frag} {G H : Hp} {L : List Cell} {o : O} {v : V} {c : List Cell} {xs : List D} (h : OT K G o v c) (e : oLst o = some xs) (S : Sep T G H (c ++ L)) : ∃ G' p vs, Same G G' ∧ v = .ref p ∧ SqL K G' p vs ∧ DqAll K G' vs xs ∧ Sep T G' H L := by
  rcases oLst_eq e with rfl | rfl
  · cases h with
    | d h =>
      cases h with
      | lst hp hs => exact ⟨G, _, _, .refl _, rfl, hp, hs, S⟩
  · cases h with
    | @l _ p vs hs =>
      obtain ⟨S2, m⟩ := Sep.freeze (show Sep T G H ((p, .lst vs) :: L) from S)
      exact ⟨_, p, vs, m, rfl, .inl (.inl upd_same), dps_mono m _ _ hs, S2⟩
theorem iv_enumL {p tpos : Pos} {elts : List Expr} {kk : Nat} {fa : Ex} (hm : X.mg "enumerate" = none) (ha : EV X T a fa) (hg : Gl X "enumerate" := by rfl) (hs : starEach [a] X.env = [(false, eval a X.env)] := by rfl) : IV X T (.Tuple elts kk tpos) (.Call (.Name "enumerate" p) [a] [] pos) (iEnumL fa) := by
  obtain ⟨t, pa, h⟩ := ha
  refine ⟨_, pi_enum hg hm (pa_cons pa pa_nil (by rw [hs]; rfl)) hs, fun env ds env' hf G σ H L Lx hR hS R hR' => ?_⟩
  unfold iEnumL at hf
  obtain ⟨⟨o, env1⟩, e1, hf⟩ := bind_eq hf
  obtain ⟨xs, e2, hf⟩ := bind_eq hf
  cases hf
  refine h env o env1 e1 G σ H L Lx hR hS _ fun G1 v H1 L1 Lo s1 ot R1 S1 => ?_
  obtain ⟨G2, q, vs, m, rfl, hp, hs', S2⟩ := lst_frz ot e2 S1
  exact ⟨q, vs, rfl, S2.same.seq hp, hR' G2 H1 L1 _ (s1.trans m) (rel_mono m R1) S2 (walk_enum hp hs')⟩
theorem iv_enumT {p tpos : Pos} {elts : List Expr} {kk : Nat} {fa : Ex} (hm : X.mg "enumerate" = none) (ha : EV X T a fa) (hg : Gl X "enumerate" := by rfl) (hs : starEach [a] X.env = [(false, eval a X.env)] := by rfl) : IV X T (.Tuple elts kk tpos) (.Call (.Name "enumerate" p) [a] [] pos) (iEnumT fa) := by
  obtain ⟨t, pa, h⟩ := ha
  refine ⟨_, pi_enumT hg hm (pa_cons pa pa_nil (by rw [hs]; rfl)) hs, fun env ds env' hf G σ H L Lx hR hS R hR' => ?_⟩
  unfold iEnumT at hf
  obtain ⟨⟨o, env1⟩, e1, hf⟩ := bind_eq hf
  obtain ⟨xs, e2, hf⟩ := bind_eq hf
  cases hf
  refine h env o env1 e1 G σ H L Lx hR hS _ fun G1 v H1 L1 Lo s1 ot R1 S1 => ?_
  have e3 := oTup_eq e2
  simp only at e3
  subst e3
  cases ot with
  | d ot =>
    cases ot with
    | tup hp hs' => exact ⟨_, _, rfl, same_tup S1.same hp, hR' G1 H1 L1 _ s1 R1 (S1.sub .drop) (walk_enumT hp hs')⟩
/-! ### zip -/
theorem zipD_get {xs ys : List D} {i : Nat} {d : D} (h : (zipD xs ys)[i]? = some d) : ∃ x y, xs[i]? = some x ∧ ys[i]? = some y ∧ d = .tuple [x, y] := by
  unfold zipD at h
  rw [List.getElem?_map] at h
  cases hz : (xs.zip ys)[i]? with
  | none =>
    rw [hz] at h
    cases h
  | some z =>
    rw [hz] at h
    obtain ⟨a, b⟩ := List.getElem?_zip_eq_some.mp hz
    cases h
    exact ⟨z.1, z.2, a, b, rfl⟩
theorem zipD_len {xs ys : List D} : (zipD xs ys).length = min xs.length ys.length := by simp [zipD]
theorem walk_zipL {K : PySem.W.Frag} {G0 : Hp} {p q : Addr} {vs ws : List V} {ds es : List D} (hp : SqL K G0 p vs) (hs : DqAll K G0 vs ds) (hq : SqL K G0 q ws) (ht : DqAll K G0 ws es) : WalkD K T (Itz K p q) (zipD ds es) G0 := fun i G H L m S => by
  have h1 : SqL K H p vs := (m.trans S.same).seq hp
  have h2 : SqL K H q ws := (m.trans S.same).seq hq
  refine ⟨fun d hd => ?_, fun hl => ⟨vs, ws, h1, h2, by rw [dps_len hs, dps_len ht, hl, zipD_len]; omega⟩⟩
  obtain ⟨x, y, hx, hy, rfl⟩ := zipD_get hd
  obtain ⟨v, e1, e2⟩ := dps_get hs hx
  obtain ⟨w, e3, e4⟩ := dps_get ht hy
  refine ⟨⟨vs, ws, v, w, h1, h2, e1, e3⟩, fun x H' hy' => ?_⟩
  obtain ⟨r, v', w', rfl, hr, rfl, hv, hw⟩ := hy'
  have e5 := hv vs h1
  have e6 := hw ws h2
  rw [e1] at e5
  rw [e3] at e6
  cases e5
  cases e6
  exact pair_new S hr (dp_mono m _ _ e2) (dp_mono m _ _ e4)
theorem walk_zipT {K : PySem.W.Frag} {G0 : Hp} {p q : Addr} {vs ws : List V} {ds es : List D} (hp : G0 p = some (.tup vs)) (hs : DqAll K G0 vs ds) (hq : G0 q = some (.tup ws)) (ht : DqAll K G0 ws es) : WalkD K T (RZ.ItzT K p q) (zipD ds es) G0 := fun i G H L m S => by
  have h1 : SqT K H p vs := same_tup (m.trans S.same) hp
  have h2 : SqT K H q ws := same_tup (m.trans S.same) hq
  refine ⟨fun d hd => ?_, fun hl => ⟨vs, ws, h1, h2, by rw [dps_len hs, dps_len ht, hl, zipD_len]; omega⟩⟩
  obtain ⟨x, y, hx, hy, rfl⟩ := zipD_get hd
  obtain ⟨v, e1, e2⟩ := dps_get hs hx
  obtain ⟨w, e3, e4⟩ := dps_get ht hy
  refine ⟨⟨vs, ws, v, w, h1, h2, e1, e3⟩, fun x H' hy' => ?_⟩
  obtain ⟨r, v', w', rfl, hr, rfl, hv, hw⟩ := hy'
  have e5 := hv vs h1
  have e6 := hw ws h2
  rw [e1] at e5
  rw [e3] at e6
  cases e5
  cases e6
  exact pair_new S hr (dp_mono m _ _ e2) (dp_mono m _ _ e4)
theorem iv_zipL {p tpos : Pos} {elts : List Expr} {kk : Nat} {fa fb : Ex} (hm : X.mg "zip" = none) (ha : EV X T a fa) (hb : EV X T b fb) (hg : Gl X "zip" := by rfl) (hs : starEach [a, b] X.env = (false, eval a X.env) :: starEach [b] X.env := by rfl) (hs2 : starEach [b] X.env = (false, eval b X.env) :: starEach [] X.env := by rfl) (hpl : (backTo pos (starEach [b] X.env)).any (·.1) = false := by rfl) :
    IV X T (.Tuple elts kk tpos) (.Call (.Name "zip" p) [a, b] [] pos) (iZipL fa fb) := by
  obtain ⟨t, pa, h⟩ := ha
  obtain ⟨t2, pb, h2⟩ := hb
  refine ⟨_, RZ.pi_zipA hg hm (pa_cons pa (pa_cons pb pa_nil hs2) hs) hs hpl, fun env ds env' hf G σ H L Lx hR hS R hR' => ?_⟩
  unfold iZipL at hf
  obtain ⟨⟨o, env1⟩, e1, hf⟩ := bind_eq hf
  obtain ⟨⟨o2, env2⟩, e2, hf⟩ := bind_eq hf
  obtain ⟨xs, e3, hf⟩ := bind_eq hf
  obtain ⟨ys, e4, hf⟩ := bind_eq hf
  cases hf
  refine h env o env1 e1 G σ H L Lx hR hS _ fun G1 v H1 L1 Lo s1 ot R1 S1 => ?_
  obtain ⟨G1', q, vs, m, rfl, hp, hs', S1'⟩ := lst_frz ot e3 S1
  refine h2 env1 o2 env2 e2 G1' σ H1 L1 Lx (rel_mono m R1) S1' _ fun G2 v2 H2 L2 Lo2 s2 ot2 R2 S2 => ?_
  obtain ⟨G2', q2, vs2, m2, rfl, hp2, hs2', S2'⟩ := lst_frz ot2 e4 S2
  have mm := s2.trans m2
  exact ⟨q, q2, vs, vs2, rfl, .inl ⟨(mm.trans S2'.same).seq hp, S2'.same.seq hp2, hR' G2' H2 L2 _ ((s1.trans m).trans mm) (rel_mono m2 R2) S2' (walk_zipL (mm.seq hp) (dps_mono mm _ _ hs') hp2 hs2')⟩⟩
theorem iv_zipT {p tpos : Pos} {elts : List Expr} {kk : Nat} {fa fb : Ex} (hm : X.mg "zip" = none) (ha : EV X T a fa) (hb : EV X T b fb) (hg : Gl X "zip" := by rfl) (hs : starEach [a, b] X.env = (false, eval a X.env) :: starEach [b] X.env := by rfl) (hs2 : starEach [b] X.env = (false, eval b X.env) :: starEach [] X.env := by rfl) (hpl : (backTo pos (starEach [b] X.env)).any (·.1) = false := by rfl) :
    IV X T (.Tuple elts kk tpos) (.Call (.Name "zip" p) [a, b] [] pos) (iZipT fa fb) := by
  obtain ⟨t, pa, h⟩ := ha
  obtain ⟨t2, pb, h2⟩ := hb
  refine ⟨_, RZ.pi_zipA hg hm (pa_cons pa (pa_cons pb pa_nil hs2) hs) hs hpl, fun env ds env' hf G σ H L Lx hR hS R hR' => ?_⟩
  unfold iZipT at hf
  obtain ⟨⟨o, env1⟩, e1, hf⟩ := bind_eq hf
  obtain ⟨⟨o2, env2⟩, e2, hf⟩ := bind_eq hf
  obtain ⟨xs, e3, hf⟩ := bind_eq hf
  obtain ⟨ys, e4, hf⟩ := bind_eq hf
  cases hf
  refine h env o env1 e1 G σ H L Lx hR hS _ fun G1 v H1 L1 Lo s1 ot R1 S1 => ?_
  have e3' := oTup_eq e3
  simp only at e3'
  subst e3'
  refine h2 env1 o2 env2 e2 G1 σ H1 L1 Lx R1 (S1.sub .drop) _ fun G2 v2 H2 L2 Lo2 s2 ot2 R2 S2 => ?_
  have e4' := oTup_eq e4
  simp only at e4'
  subst e4'
  cases ot with
  | d ot =>
    cases ot with
    | tup hp hs' =>
      cases ot2 with
      | d ot2 =>
        cases ot2 with
        | tup hp2 hs2' => exact ⟨_, _, _, _, rfl, .inr ⟨same_tup (s2.trans S2.same) hp, same_tup S2.same hp2, hR' G2 H2 L2 _ (s1.trans s2) R2 (S2.sub .drop) (walk_zipT (s2 _ _ hp) (dps_mono s2 _ _ hs') hp2 hs2')⟩⟩
end
end Sh

/-! Shift layer: what is walked is a list or a tuple. -/
namespace Sh
open PySem PySem.Spec PyProof.Rows L2
section
variable {X : Cx} {T : TabsT} {tg a b : Expr} {pos : Pos}
theorem iv_or {e : Expr} {f1 f2 f : ExI} (h1 : IV X T tg e f1) (h2 : IV X T tg e f2) (hf : ∀ env r, f env = some r → f1 env = some r ∨ f2 env = some r) : IV X T tg e f := by
  obtain ⟨w1, p1, h1⟩ := h1
  obtain ⟨w2, p2, h2⟩ := h2
  refine ⟨fun σ H R => w1 σ H R ∨ w2 σ H R, ⟨fun pins s σ H R I h => ?_⟩, fun env ds env' he G σ H L Lx hR hS R hR' => ?_⟩
  · rcases h with h | h
    · exact p1.run pins s σ H R I h
    · exact p2.run pins s σ H R I h
  · rcases hf env _ he with z | z
    · exact .inl (h1 env ds env' z G σ H L Lx hR hS R hR')
    · exact .inr (h2 env ds env' z G σ H L Lx hR hS R hR')
@[simp] def iSeq (a : Ex) : ExI := fun e => (a e).bind fun p => (oSeq p.1).bind fun xs => some (xs, p.2)
@[simp] def iEnum (a : Ex) : ExI := fun e => (a e).bind fun p => (oSeq p.1).bind fun xs => some (enumD xs, p.2)
theorem seq_or {o : O} {xs : List D} (h : oSeq o = some xs) : oLst o = some xs ∨ oTup o = some xs := by
  cases o with
  | d x =>
    cases x <;> simp at h ⊢ <;> assumption
  | l xs => simpa using h
  | m t kvs => simp at h
  | g rows => simp at h
  | k t kvs => simp at h
theorem iv_seq {e : Expr} {fa : Ex} (ha : EV X T e fa) : IV X T tg e (iSeq fa) := iv_or (iv_lst ha) (iv_tup ha) fun env r h => by
  unfold iSeq at h
  obtain ⟨⟨o, env1⟩, e1, h⟩ := bind_eq h
  obtain ⟨xs, e2, h⟩ := bind_eq h
  cases h
  rcases seq_or e2 with z | z
  · exact .inl (by unfold iLst; rw [e1]; show (oLst o).bind _ = _; rw [z]; rfl)
  · exact .inr (by unfold iTup; rw [e1]; show (oTup o).bind _ = _; rw [z]; rfl)

theorem iv_enum {p tpos : Pos} {elts : List Expr} {kk : Nat} {fa : Ex} (hm : X.mg "enumerate" = none) (ha : EV X T a fa) (hg : Gl X "enumerate" := by rfl) (hs : starEach [a] X.env = [(false, eval a X.env)] := by rfl) : IV X T (.Tuple elts kk tpos) (.Call (.Name "enumerate" p) [a] [] pos) (iEnum fa) := iv_or (iv_enumL hm ha hg hs) (iv_enumT hm ha hg hs) fun env r h => by
  unfold iEnum at h
  obtain ⟨⟨o, env1⟩, e1, h⟩ := bind_eq h
  obtain ⟨xs, e2, h⟩ := bind_eq h
  cases h
  rcases seq_or e2 with z | z
  · exact .inl (by unfold iEnumL; rw [e1]; show (oLst o).bind _ = _; rw [z]; rfl)
  · exact .inr (by unfold iEnumT; rw [e1]; show (oTup o).bind _ = _; rw [z]; rfl)
def zipK : O → O → Option (List D) := fun x y => match oLst x, oLst y with
  | some xs, some ys => some (zipD xs ys)
  | _, _ => match oTup x, oTup y with
    | some xs, some ys => some (zipD xs ys)
    | _, _ => none
@[simp] theorem zipK_ll (xs ys : List D) : zipK (.l xs) (.l ys) = some (zipD xs ys) := rfl
@[simp] theorem zipK_dl (xs ys : List D) : zipK (.d (.list xs)) (.l ys) = some (zipD xs ys) := rfl
@[simp] theorem zipK_ld (xs ys : List D) : zipK (.l xs) (.d (.list ys)) = some (zipD xs ys) := rfl
@[simp] theorem zipK_dd (xs ys : List D) : zipK (.d (.list xs)) (.d (.list ys)) = some (zipD xs ys) := rfl
@[simp] theorem zipK_tt (xs ys : List D) : zipK (.d (.tuple xs)) (.d (.tuple ys)) = some (zipD xs ys) := rfl
@[simp] def iZip (a b : Ex) : ExI := fun e => (a e).bind fun p => (b p.2).bind fun q => (zipK p.1 q.1).bind fun xs => some (xs, q.2)
theorem iv_zip {p tpos : Pos} {elts : List Expr} {kk : Nat} {fa fb : Ex} (hm : X.mg "zip" = none) (ha : EV X T a fa) (hb : EV X T b fb) (hg : Gl X "zip" := by rfl) (hs : starEach [a, b] X.env = (false, eval a X.env) :: starEach [b] X.env := by rfl) (hs2 : starEach [b] X.env = (false, eval b X.env) :: starEach [] X.env := by rfl) (hpl : (backTo pos (starEach [b] X.env)).any (·.1) = false := by rfl) :
    IV X T (.Tuple elts kk tpos) (.Call (.Name "zip" p) [a, b] [] pos) (iZip fa fb) := iv_or (iv_zipL hm ha hb hg hs hs2 hpl) (iv_zipT hm ha hb hg hs hs2 hpl) fun env r h => by
  unfold iZip at h
  obtain ⟨⟨o, env1⟩, e1, h⟩ := bind_eq h
  obtain ⟨⟨o2, env2⟩, e2, h⟩ := bind_eq h
  obtain ⟨xs, e3, h⟩ := bind_eq h
  cases h
  have e3 : zipK o o2 = some xs := e3
  unfold zipK at e3
  cases h1 : oLst o with
  | some xs1 =>
    cases h2 : oLst o2 with
    | some ys1 =>
      rw [h1, h2] at e3
      cases e3
      exact .inl (by unfold iZipL; rw [e1]; show (fb env1).bind _ = _; rw [e2]; show (oLst o).bind _ = _; rw [h1]; show (oLst o2).bind _ = _; rw [h2]; rfl)
    | none =>
      rw [h1, h2] at e3
      cases h3 : oTup o with
      | some a =>
        have z := oTup_eq h3
        subst z
        cases h1
      | none =>
        rw [h3] at e3
        cases e3
  | none =>
    rw [h1] at e3
    cases h3 : oTup o with
    | none =>
      rw [h3] at e3
      cases e3
    | some a =>
      cases h4 : oTup o2 with
      | none =>
        rw [h3, h4] at e3
        cases e3
      | some b =>
        rw [h3, h4] at e3
        cases e3
        exact .inr (by unfold iZipT; rw [e1]; show (fb env1).bind _ = _; rw [e2]; show (oTup o).bind _ = _; rw [h3]; show (oTup o2).bind _ = _; rw [h4]; rfl)
end
end Sh

/-! Shift layer: a list times an int. -/
namespace Sh
open PySem PySem.Spec PyProof.Rows L2
@[simp] def gRep : O → O → Option O
  | .l xs, .d (.int k) => if 0 ≤ k ∧ k ≤ 1000 ∧ xs.length ≤ 1000 then some (.l (List.replicate k.toNat xs).flatten) else none
  | _, _ => none
section
variable {X : Cx} {T : TabsT}
theorem dps_rep {K : PySem.W.Frag} {G : Hp} {vs : List V} {ds : List D} (h : DqAll K G vs ds) : ∀ n : Nat, DqAll K G (List.replicate n vs).flatten (List.replicate n ds).flatten
  | 0 => .nil
  | n + 1 => by
    rw [List.replicate_succ, List.replicate_succ, List.flatten_cons, List.flatten_cons]
    exact dps_app h (dps_rep h n)
theorem o2_rep : Op2 X T (can2 X (binaryOp .Mult)) gRep := op2_mk fun G H L x y z vx vy cx cy ox oy mx my S e => by
  unfold gRep at e
  split at e
  · rename_i xs k
    split at e
    · rename_i hk
      cases e
      cases ox with
      | @l _ p vs hs =>
        cases oy with
        | d oy =>
          cases oy
          have hat := (S.at_ _ (mx _ List.mem_cons_self)).1
          have h1 := line_ge
          have h2 := dps_len hs
          have h4 : xs.length * k.toNat ≤ 1000 * 1000 := Nat.mul_le_mul hk.2.2 (by omega)
          refine ⟨_, op_rep, fun Q hQ => ⟨p, k, vs, rfl, rfl, hat, by omega, by omega, by rw [h2]; omega, fun q hq => ?_⟩⟩
          exact hQ G (.ref q) _ _ (.refl _) (.l (dps_rep hs _)) (S.owned hq)
    · cases e
  · cases e
end
end Sh

/-! Shift layer: max, min of one list of ints; gcd; pop. -/
namespace Sh
open PySem PySem.Spec PyProof.Rows L2
def maxI : List Int → Int
  | [] => 0
  | [x] => x
  | x :: y :: r => if maxI (y :: r) > x then maxI (y :: r) else x
def minI : List Int → Int
  | [] => 0
  | [x] => x
  | x :: y :: r => if minI (y :: r) < x then minI (y :: r) else x
theorem maxI_spec : ∀ xs : List Int, xs ≠ [] → maxI xs ∈ xs ∧ ∀ x ∈ xs, x ≤ maxI xs
  | [], h => absurd rfl h
  | [x], _ => ⟨by simp [maxI], fun y hy => by simp [maxI] at *; omega⟩
  | x :: y :: r, _ => by
    obtain ⟨a, b⟩ := maxI_spec (y :: r) (by simp)
    unfold maxI
    split
    · exact ⟨List.mem_cons_of_mem _ a, fun z hz => by
        rcases List.mem_cons.mp hz with e | hz
        · subst e
          omega
        · exact b z hz⟩
    · exact ⟨List.mem_cons_self, fun z hz => by
        rcases List.mem_cons.mp hz with e | hz
        · subst e
          omega
        · have := b z hz
          omega⟩
theorem minI_spec : ∀ xs : List Int, xs ≠ [] → minI xs ∈ xs ∧ ∀ x ∈ xs, minI xs ≤ x
  | [], h => absurd rfl h
  | [x], _ => ⟨by simp [minI], fun y hy => by simp [minI] at *; omega⟩
  | x :: y :: r, _ => by
    obtain ⟨a, b⟩ := minI_spec (y :: r) (by simp)
    unfold minI
    split
    · exact ⟨List.mem_cons_of_mem _ a, fun z hz => by
        rcases List.mem_cons.mp hz with e | hz
        · subst e
          omega
        · exact b z hz⟩
    · exact ⟨List.mem_cons_self, fun z hz => by
        rcases List.mem_cons.mp hz with e | hz
        · subst e
          omega
        · have := b z hz
          omega⟩
@[simp] def gMax1 (x : O) : Option O := (oLst x).bind fun xs => (intsOf xs).bind fun ns => if ns.isEmpty = true then none else some (.d (.int (maxI ns)))
@[simp] def gMin1 (x : O) : Option O := (oLst x).bind fun xs => (intsOf xs).bind fun ns => if ns.isEmpty = true then none else some (.d (.int (minI ns)))
section
variable {X : Cx} {T : TabsT} {a b : Expr} {pos : Pos}
theorem o1_max (hc : X.calm = true) : Op1 X T (fun v H Q => canC X (.builtin "max") [v] H Q) gMax1 := by
  intro G H L x z vx cx ox mx S ez Q hQ
  unfold gMax1 at ez
  obtain ⟨xs, e1, ez⟩ := bind_eq ez
  obtain ⟨ns, e2, ez⟩ := bind_eq ez
  split at ez
  · cases ez
  · rename_i hne
    cases ez
    have hne' : ns ≠ [] := fun z => by simp [z] at hne
    obtain ⟨p, vs, rfl, hp, hq⟩ := lst_of ox mx S e1
    have := ints_dps e2 hq
    subst this
    refine can_of (cr_max hc) ⟨p, ns, rfl, hp, List.length_pos_iff.mpr hne', fun m h1 h2 => ?_⟩
    obtain ⟨a1, a2⟩ := maxI_spec ns hne'
    have hm : m = maxI ns := by
      have h3 := a2 m h1
      have h4 := h2 _ a1
      omega
    rw [hm]
    exact hQ G _ H [] (.refl _) (.d (.int _)) S
theorem o1_min (hc : X.calm = true) : Op1 X T (fun v H Q => canC X (.builtin "min") [v] H Q) gMin1 := by
  intro G H L x z vx cx ox mx S ez Q hQ
  unfold gMin1 at ez
  obtain ⟨xs, e1, ez⟩ := bind_eq ez
  obtain ⟨ns, e2, ez⟩ := bind_eq ez
  split at ez
  · cases ez
  · rename_i hne
    cases ez
    have hne' : ns ≠ [] := fun z => by simp [z] at hne
    obtain ⟨p, vs, rfl, hp, hq⟩ := lst_of ox mx S e1
    have := ints_dps e2 hq
    subst this
    refine can_of (cr_min hc) ⟨p, ns, rfl, hp, List.length_pos_iff.mpr hne', fun m h1 h2 => ?_⟩
    obtain ⟨a1, a2⟩ := minI_spec ns hne'
    have hm : m = minI ns := by
      have h3 := a2 m h1
      have h4 := h2 _ a1
      omega
    rw [hm]
    exact hQ G _ H [] (.refl _) (.d (.int _)) S
theorem o2_gcd : Op2 X T (fun v u H Q => canC X (.builtin "math.gcd") [v, u] H Q) gGcd := b2_int (h := fun i j => ((Nat.gcd i.natAbs j.natAbs : Nat) : Int)) (fun pins s σ H vs us Q I r h => cr_gcd pins s σ H vs us Q I r h) fun x y z e => by
  unfold gGcd at e
  split at e
  · cases e
    exact ⟨_, _, rfl, rfl, rfl⟩
  · cases e
/-- gcd(a, b): a name of the module for math's gcd -/
theorem ev_gcd {x : Str} {p : Pos} {fa fb : ExP} (hm : X.mg x = some (.builtin "math.gcd")) (ha : OV X T a fa) (hb : OV X T b fb) (hgl : Gl X x := by rfl)
    (hdb : (x == ("__debug__" : Str)) = false := by decide) (he : starEach [a, b] X.env = (false, eval a X.env) :: starEach [b] X.env := by rfl) (he2 : starEach [b] X.env = (false, eval b X.env) :: starEach [] X.env := by rfl) (hpl : (backTo pos (starEach [b] X.env)).any (·.1) = false := by rfl) : EV X T (.Call (.Name x p) [a, b] [] pos) (eOp2 gGcd fa fb) :=
  ev_of2 o2_gcd ha hb fun {ta tb} pa pb => ⟨fun pins s σ H Q I h => (pe_callBfun canC_ok hgl hm (pa_cons pa (pa_cons pb pa_nil he2) he) hdb he hpl).run pins s σ H Q I h⟩
end
end Sh

/-! Shift layer: displays with starred parts. -/
namespace Sh
open PySem PySem.Spec PyProof.Rows L2
section
variable {X : Cx} {T : TabsT} {e : Expr} {es : List Expr} {pos : Pos}
def DV (X : Cx) (T : TabsT) (es : List Expr) (f : ExI) : Prop := ∃ t : TA, PA X es t ∧ ∀ (env : Ev) (ds : List D) (env' : Ev), f env = some (ds, env') → ∀ (G : Hp) (σ : St) (H : Hp) (L Lx : List Cell), RelS X.K G env σ L → Sep T G H (L ++ Lx) →
  ∀ Q : List V → Hp → Prop, (∀ (G' : Hp) (vs : List V) (H' : Hp) (L' : List Cell), Same G G' → DqAll X.K G' vs ds → RelS X.K G' env' σ L' → Sep T G' H' (L' ++ Lx) → Q vs H') → t σ H Q
@[simp] def dNil : ExI := fun e => some ([], e)
@[simp] def dCons (a : Ex) (r : ExI) : ExI := fun e => (a e).bind fun p => (frz p.1).bind fun x => (r p.2).bind fun q => some (x :: q.1, q.2)
@[simp] def dStar (a : Ex) (r : ExI) : ExI := fun e => (a e).bind fun p => (oSeq p.1).bind fun xs => (r p.2).bind fun q => some (xs ++ q.1, q.2)
@[simp] def eTupS (f : ExI) : Ex := fun e => (f e).bind fun p => if p.1.length ≤ 1000000 then some (.d (.tuple p.1), p.2) else none
@[simp] def eLstS (f : ExI) : Ex := fun e => (f e).bind fun p => if p.1.length ≤ 1000000 then some (.l p.1, p.2) else none
theorem dv_nil : DV X T [] dNil := ⟨_, pa_nil, fun env ds env' hf G σ H L Lx hR hS Q hQ => by
  cases hf
  exact hQ G [] H L (.refl _) .nil hR hS⟩
theorem dv_cons {fa : Ex} {fr : ExI} (ha : EV X T e fa) (hr : DV X T es fr) (hs : starEach (e :: es) X.env = (false, eval e X.env) :: starEach es X.env := by rfl) : DV X T (e :: es) (dCons fa fr) := by
  obtain ⟨ta, pa, ha⟩ := ha
  obtain ⟨tr, pr, hr⟩ := hr
  refine ⟨_, pa_cons pa pr hs, fun env ds env' hf G σ H L Lx hR hS Q hQ => ?_⟩
  unfold dCons at hf
  obtain ⟨⟨o1, env1⟩, e1, hf⟩ := bind_eq hf
  obtain ⟨x, e3, hf⟩ := bind_eq hf
  obtain ⟨⟨os2, env2⟩, e2, hf⟩ := bind_eq hf
  cases hf
  refine ha env o1 env1 e1 G σ H L Lx hR hS _ fun G1 v1 H1 L1 Lo1 s1 ot1 R1 S1 => ?_
  obtain ⟨G2, m2, d2, S2⟩ := frz_of ot1 e3 S1
  refine hr env1 os2 env2 e2 G2 σ H1 L1 Lx (rel_mono m2 R1) S2 _ fun G3 vs3 H3 L3 s3 ar3 R3 S3 => ?_
  exact hQ G3 (v1 :: vs3) H3 L3 ((s1.trans m2).trans s3) (.cons (dp_mono s3 _ _ d2) ar3) R3 S3
theorem dv_star {p : Pos} {fa : Ex} {fr : ExI} (ha : EV X T e fa) (hr : DV X T es fr) (hs : starEach (.Starred e p :: es) X.env = (true, eval e X.env) :: starEach es X.env := by rfl) : DV X T (.Starred e p :: es) (dStar fa fr) := by
  obtain ⟨ta, pa, ha⟩ := ha
  obtain ⟨tr, pr, hr⟩ := hr
  refine ⟨_, StX.pa_star pa pr hs, fun env ds env' hf G σ H L Lx hR hS Q hQ => ?_⟩
  unfold dStar at hf
  obtain ⟨⟨o1, env1⟩, e1, hf⟩ := bind_eq hf
  obtain ⟨xs, e3, hf⟩ := bind_eq hf
  obtain ⟨⟨os2, env2⟩, e2, hf⟩ := bind_eq hf
  cases hf
  refine ha env o1 env1 e1 G σ H L Lx hR hS _ fun G1 v1 H1 L1 Lo1 s1 ot1 R1 S1 => ?_
  rcases seq_or e3 with z | z
  · obtain ⟨G2, q, vs, m, rfl, hp, hs', S2⟩ := lst_frz ot1 z S1
    refine ⟨q, vs, rfl, .inr (S2.same.seq hp), ?_⟩
    refine hr env1 os2 env2 e2 G2 σ H1 L1 Lx (rel_mono m R1) S2 _ fun G3 vs3 H3 L3 s3 ar3 R3 S3 => ?_
    exact hQ G3 (vs ++ vs3) H3 L3 ((s1.trans m).trans s3) (dps_app (dps_mono s3 _ _ hs') ar3) R3 S3
  · have z' := oTup_eq z
    simp only at z'
    subst z'
    cases ot1 with
    | d ot1 =>
      cases ot1 with
      | @tup q vs _ hp hs' =>
        have S2 := S1.sub (.drop)
        refine ⟨q, vs, rfl, .inl (same_tup S1.same hp), ?_⟩
        refine hr env1 os2 env2 e2 G1 σ H1 L1 Lx R1 S2 _ fun G3 vs3 H3 L3 s3 ar3 R3 S3 => ?_
        exact hQ G3 (vs ++ vs3) H3 L3 (s1.trans s3) (dps_app (dps_mono s3 _ _ hs') ar3) R3 S3
theorem ev_tupS {x1} {f : ExI} (h : DV X T es f) : EV X T (.Tuple es x1 pos) (eTupS f) := by
  obtain ⟨t, p, h⟩ := h
  refine ⟨_, pe_tup p, fun env o env' hf G σ H L Lx hR hS Q hQ => ?_⟩
  unfold eTupS at hf
  obtain ⟨⟨ds, env1⟩, e1, hf⟩ := bind_eq hf
  simp only at hf
  split at hf
  · rename_i hl
    cases hf
    refine h env _ _ e1 G σ H L Lx hR hS _ fun G1 vs H1 L1 s1 d1 R1 S1 => ?_
    refine ⟨by rw [dps_len d1]; exact Nat.le_trans hl (Nat.le_of_lt line_ge), fun p hp => ?_⟩
    have m3 := same_new (o := .tup vs) (S1.fresh hp).1
    exact hQ _ (.ref p) _ L1 [] (s1.trans m3) (.d (.tup upd_same (dps_mono m3 _ _ d1))) (rel_mono m3 R1) (S1.frozen hp)
  · cases hf
theorem ev_lstS {f : ExI} (h : DV X T es f) : EV X T (.List es pos) (eLstS f) := by
  obtain ⟨t, p, h⟩ := h
  refine ⟨_, pe_lst p, fun env o env' hf G σ H L Lx hR hS Q hQ => ?_⟩
  unfold eLstS at hf
  obtain ⟨⟨ds, env1⟩, e1, hf⟩ := bind_eq hf
  simp only at hf
  split at hf
  · rename_i hl
    cases hf
    refine h env _ _ e1 G σ H L Lx hR hS _ fun G1 vs H1 L1 s1 d1 R1 S1 => ?_
    refine ⟨by rw [dps_len d1]; exact Nat.le_trans hl (Nat.le_of_lt line_ge), fun p hp => ?_⟩
    exact hQ G1 (.ref p) _ L1 [(p, .lst vs)] s1 (.l d1) R1 (S1.owned hp)
  · cases hf
end
end Sh

/-! Shift layer: xs.pop(), the list an owned one. -/
namespace Sh
open PySem PySem.Spec PyProof.Rows L2
section
variable {X : Cx} {T : TabsT}
@[simp] def ePop (j : Nat) : Ex := fun e => (slot e j).bind fun o => (oOwn o).bind fun xs => (xs[xs.length - 1]?).bind fun y => some (.d y, e.set j (some (.l xs.dropLast)))
theorem dps_dropLast {K : PySem.W.Frag} {G : Hp} {vs : List V} {ds : List D} (h : DqAll K G vs ds) : DqAll K G vs.dropLast ds.dropLast := by
  rw [List.dropLast_eq_take, List.dropLast_eq_take, dps_len h]
  exact dps_take _ h
theorem ev_pop {x : Str} {p1 p2 p3 : Pos} (j : Nat) (hN : X.N[j]? = some x := by rfl) (hvis : Vis X.env.scope x := by first | exact Or.inl rfl | exact Or.inr (Or.inl rfl) | exact Or.inr (Or.inr rfl)) (hd : (x == ("__debug__" : Str)) = false := by decide)
    (hcd : (x == ("__classdict__" : Str)) = false := by decide)
    (hp : ∀ {to : TE}, PE X (.Name x p1) to → PE X (.Call (.Attribute (.Name x p1) "pop" p2) [] [] p3) (tBM0 X.K "list" rPop to) := by exact fun h1 => pe_bm0 PySem.F.plainAttrs_list PySem.F.slot_list_pop PySem.F.type_list_pop mt_pop h1) : EV X T (.Call (.Attribute (.Name x p1) "pop" p2) [] [] p3) (ePop j) := by
  refine ⟨_, hp (pe_var hN hvis hd hcd), fun env o env' hf G σ H L Lx hR hS Q hQ => ?_⟩
  unfold ePop at hf
  obtain ⟨o3, e3, hf⟩ := bind_eq hf
  obtain ⟨xs, e4, hf⟩ := bind_eq hf
  obtain ⟨y, e5, hf⟩ := bind_eq hf
  cases hf
  have ex := oOwn_eq e4
  subst ex
  obtain ⟨v3, c3, L3, f1, f2, f3, f4⟩ := rel_take hR e3
  cases f2 with
  | @l _ p vs dv =>
    have S4 : Sep T G H ((p, .lst vs) :: (L3 ++ Lx)) := hS.sub (.perm (by simpa using f3.append_right Lx))
    have hat := (S4.at_ _ List.mem_cons_self).1
    obtain ⟨w, e6, dw⟩ := dps_get dv e5
    refine ⟨.ref p, f1, .inl ⟨rfl, _, .inl (.inl hat)⟩, p, vs, w, rfl, rfl, hat, by rw [dps_len dv]; exact e6, ?_⟩
    have S5 := S4.change (o' := .lst vs.dropLast)
    obtain ⟨L', q1, q2⟩ := rel_put_at f4 slot_set_same f1 (.l (dps_dropLast dv))
    rw [List.set_set] at q1
    exact hQ G w _ L' [] (.refl _) (.d dw) q1 (S5.sub (.perm (by simpa using (q2.append_right Lx).symm)))
end
end Sh


/-! Shift layer: sorted, min, max of a tuple of ints; unpacking a list. -/
namespace Sh
open PySem PySem.Spec PyProof.Rows L2
section
variable {prog : Program} {w : World} {A : Around} {E : Value → Shared → Prop} {s : Shared} {l : Addr}
theorem collect_tup {vs : List Value} {Q : List Value → Shared → Prop} (hl : IsTup s.heap l vs.toArray)
    (h : Q vs { s with heap := (s.heap.push (seqObj "list" #[] 0)).update s.heap.objs.size (Obj.mapSeq (· ++ vs.toArray)) }) (hsz : vs.length ≤ sizeLine) :
    wpAny (model prog w) A (collect (.ref l)) Q E s := by
  obtain ⟨o, ho, hc, n, hd⟩ := id hl
  unfold collect
  refine wpAny_bind (wpAny_runValue (codeAny_builtin entry_proto_collect' ?_))
  show wpAny _ _ (do again (.builtin "list.__iadd__" ⟨[← newList [], .ref l], []⟩)) _ _ s
  refine wpAny_bind (wpAny_newList (wpAny_pure ⟨Code.quiet_builtin _ (by decide +kernel), codeAny_builtin entry_list_iadd' ?_⟩))
  show wpAny _ _ (Builtin.List.listExtendWith (.ref s.heap.objs.size) (.ref l) (.ref s.heap.objs.size)) _ _ { s with heap := s.heap.push (seqObj "list" #[] 0) }
  unfold Builtin.List.listExtendWith
  have ho' : (s.heap.push (seqObj "list" #[] 0)).get? l = some o := Heap.get?_push_of_some _ ho
  refine wpAny_bind (wpAny_typeOf (T := "tuple") ⟨o, ho', hc⟩ ?_)
  have ht : (Value.type "tuple" == Value.type "tuple") = true := by rfl
  rw [if_pos (by rw [ht]; simp)]
  refine wpAny_bind (listItems_at ho' hd ?_)
  refine wpAny_bind (listItems_at (xs := #[]) (n := 0) (Heap.get?_push_size _ rfl) rfl ?_)
  rw [if_neg (by simp)]
  refine wpAny_bind (listUpdate_at (xs := #[]) (n := 0) (Heap.get?_push_size _ rfl) rfl ?_ (Nat.zero_le _) (by show (#[] ++ vs.toArray).size ≤ sizeLine + 1; simp only [Array.size_append, List.size_toArray, List.length_nil]; omega))
  refine wpAny_pure ?_
  show wpAny (model prog w) A (do
      let o ← load s.heap.objs.size
      match o.data with
      | .seq xs _ => pure xs.toList
      | _ => unsupported "internal:collect") Q E { s with heap := (s.heap.push (seqObj "list" #[] 0)).update s.heap.objs.size (Obj.mapSeq (· ++ vs.toArray)) }
  refine wpAny_bind (wpAny_load (get?_update_seq (Heap.get?_push_size _ rfl) _) ?_)
  show wpAny _ _ (pure ((#[] : Array Value) ++ vs.toArray).toList) Q E _
  rw [show ((#[] : Array Value) ++ vs.toArray).toList = vs by simp]
  exact wpAny_pure h
theorem sorted_tupI {vs : List Value} {ns : List Int} {Q : Value → Shared → Prop} (hl : IsTup s.heap l vs.toArray) (hI : IntsAre vs ns) (h64 : vs.length < 64)
    (h : ∀ (out : Array Value) (ns' : List Int), IntsAre out.toList ns' → ns'.Perm ns → ns'.Pairwise (· ≤ ·) → Q (.ref (s.heap.objs.size + 1)) { s with heap := sortedAll s.heap vs out }) :
    wpAny (model prog w) A (call (.builtin "sorted") [.ref l]) Q E s := by
  have hz : vs.length ≤ sizeLine := by rw [sizeLine_eq]; omega
  refine Calls.call_function_entry kind_sorted plain_sorted entry_sorted (args_sorted1 _) ?_
  unfold Builtin.«sorted»
  refine wpAny_bind (m := checkCount "sorted" 1 1 _) (wpAny_pure ?_)
  refine wpAny_bind (collect_tup hl ?_ hz)
  refine wpAny_bind (wpAny_newList ?_ hz)
  have hsz : ((s.heap.push (seqObj "list" #[] 0)).update s.heap.objs.size (Obj.mapSeq (· ++ vs.toArray))).objs.size = s.heap.objs.size + 1 := by
    rw [Heap.size_update, size_push']
  have hoL : (((s.heap.push (seqObj "list" #[] 0)).update s.heap.objs.size (Obj.mapSeq (· ++ vs.toArray))).push (seqObj "list" vs.toArray 0)).get? (s.heap.objs.size + 1) = some (seqObj "list" vs.toArray 0) := by
    rw [← hsz]; exact Heap.get?_push_size _ rfl
  show wpAny _ _ _ _ _ { s with heap := ((s.heap.push (seqObj "list" #[] 0)).update s.heap.objs.size (Obj.mapSeq (· ++ vs.toArray))).push (seqObj "list" vs.toArray 0) }
  rw [hsz]
  refine wpAny_bind (wpAny_holding (wpAny_call_entry slot_list_sort ⟨_, hoL, rfl⟩ entry_list_sort (list_sort_tree hoL hI h64 fun out ns' a1 a2 a3 => ⟨_, rfl, ?_⟩) (args_list_sort _)))
  exact wpAny_pure ⟨_, rfl, h out ns' a1 a2 a3⟩
theorem iter_tupI {xs : Array (Int × Tok)} {Q : Value → Shared → Prop} (hl : s.heap.IsTuple l (intItems xs))
    (h : ∀ s₂ : Shared, s₂ = { s with heap := s.heap.push { cls := .type "tuple_iterator", data := .fields #[.ref l, .int 0 0] } } →
      (s₂.heap.IsTupleIter s.heap.objs.size l 0 ∧ s₂.heap.IsTuple l (intItems xs)) → (∀ b ∈ [s.heap.objs.size, l], b < s₂.heap.objs.size) → l ≠ s.heap.objs.size → Q (.ref s.heap.objs.size) s₂) :
    wpAny (model prog w) A (pyIter (.ref l)) Q E s := by
  have hlt : l < s.heap.objs.size := by obtain ⟨_, e, _⟩ := hl; exact Heap.lt_size e
  refine wpAny_pyIter_tuple hl (h _ rfl ⟨⟨_, Heap.get?_push_size _ rfl, rfl, rfl⟩, hl.push _⟩ (fun b hb => ?_) (Nat.ne_of_lt hlt))
  show b < (s.heap.push _).objs.size
  rw [Heap.size_push]
  rcases List.mem_cons.mp hb with rfl | hb
  · exact Nat.lt_succ_self _
  · rcases List.mem_cons.mp hb with rfl | hb
    · exact Nat.lt_succ_of_lt hlt
    · cases hb
theorem old_keptT {h' : Heap} (hk : ∀ b o, b ∉ [s.heap.objs.size] → (s.heap.push { cls := .type "tuple_iterator", data := .fields #[.ref l, .int 0 0] }).get? b = some o → h'.get? b = some o) :
    ∀ b o, s.heap.get? b = some o → h'.get? b = some o := fun b o e => by
  refine hk b o (fun hm => ?_) (Heap.get?_push_of_some _ e)
  rcases List.mem_cons.mp hm with e1 | hm
  · exact absurd (e1 ▸ Heap.lt_size e) (Nat.lt_irrefl _)
  · cases hm
theorem max_tupI0 {xs : Array (Int × Tok)} {Q : Value → Shared → Prop} (hh : A.handled = none) (hl : s.heap.IsTuple l (intItems xs)) (hne : 0 < xs.size)
    (h : ∀ v h' tk, (intItems xs)[argBest (fun i j => decide (numAt xs i > numAt xs j)) (xs.size - 1)]? = some v → (∀ b o, s.heap.get? b = some o → h'.get? b = some o) → Q v { s with heap := h', toks := tk }) :
    wpAny (model prog w) A (call (.builtin "max") [.ref l]) Q E s := by
  refine call_max_walk (iter_tupI hl fun s₂ e st hfp hlI => ?_)
  subst e
  refine ⟨_, _, _, _, _, _, _, rfl, Walks.tuple (A := A.in1) hh _ l hlI (intItems xs), st, hfp, by simpa [intItems] using hne, CmpOf.ints_gt (numAt xs) (fun _ _ => intItems_at), fun v h' tk hP hk => ?_⟩
  exact h v h' tk (by simpa [intItems] using hP) (old_keptT hk)
theorem min_tupI0 {xs : Array (Int × Tok)} {Q : Value → Shared → Prop} (hh : A.handled = none) (hl : s.heap.IsTuple l (intItems xs)) (hne : 0 < xs.size)
    (h : ∀ v h' tk, (intItems xs)[argBest (fun i j => decide (numAt xs i < numAt xs j)) (xs.size - 1)]? = some v → (∀ b o, s.heap.get? b = some o → h'.get? b = some o) → Q v { s with heap := h', toks := tk }) :
    wpAny (model prog w) A (call (.builtin "min") [.ref l]) Q E s := by
  refine call_min_walk (iter_tupI hl fun s₂ e st hfp hlI => ?_)
  subst e
  refine ⟨_, _, _, _, _, _, _, rfl, Walks.tuple (A := A.in1) hh _ l hlI (intItems xs), st, hfp, by simpa [intItems] using hne, CmpOf.ints_lt (numAt xs) (fun _ _ => intItems_at), fun v h' tk hP hk => ?_⟩
  exact h v h' tk (by simpa [intItems] using hP) (old_keptT hk)
theorem max_tupI {its : List Value} {ns : List Int} {Q : Value → Shared → Prop} (hh : A.handled = none) (hl : IsTup s.heap l its.toArray) (hi : IntsAre its ns) (hne : 0 < ns.length)
    (h : ∀ h' tk M t', (∀ b o, s.heap.get? b = some o → h'.get? b = some o) → M ∈ ns → (∀ a, a ∈ ns → a ≤ M) → Q (.int M t') { s with heap := h', toks := tk }) : wpAny (model prog w) A (call (.builtin "max") [.ref l]) Q E s := by
  obtain ⟨xs, e⟩ := hi.allInts.items
  have hn : numsOf (intItems xs).toList = ns := by rw [← e]; exact hi.numsOf
  rw [nums_intItems] at hn
  subst hn
  rw [e] at hl
  have hsz : 0 < xs.size := by simpa using hne
  refine max_tupI0 hh hl hsz fun v h' tk hv hk => ?_
  obtain ⟨t, rfl⟩ := intItems_at hv
  obtain ⟨h1, h2⟩ := argBest_gt (numAt xs) (xs.size - 1)
  refine h h' tk _ t hk ?_ fun a ha => ?_
  · rw [numAt_eq]; exact PySem.getD_mem (by rw [List.length_map, Array.length_toList]; omega)
  · obtain ⟨j, hj, rfl⟩ := mem_getD ha
    rw [List.length_map, Array.length_toList] at hj
    rw [← numAt_eq]; exact h2 j (by omega)
theorem min_tupI {its : List Value} {ns : List Int} {Q : Value → Shared → Prop} (hh : A.handled = none) (hl : IsTup s.heap l its.toArray) (hi : IntsAre its ns) (hne : 0 < ns.length)
    (h : ∀ h' tk M t', (∀ b o, s.heap.get? b = some o → h'.get? b = some o) → M ∈ ns → (∀ a, a ∈ ns → M ≤ a) → Q (.int M t') { s with heap := h', toks := tk }) : wpAny (model prog w) A (call (.builtin "min") [.ref l]) Q E s := by
  obtain ⟨xs, e⟩ := hi.allInts.items
  have hn : numsOf (intItems xs).toList = ns := by rw [← e]; exact hi.numsOf
  rw [nums_intItems] at hn
  subst hn
  rw [e] at hl
  have hsz : 0 < xs.size := by simpa using hne
  refine min_tupI0 hh hl hsz fun v h' tk hv hk => ?_
  obtain ⟨t, rfl⟩ := intItems_at hv
  obtain ⟨h1, h2⟩ := argBest_lt (numAt xs) (xs.size - 1)
  refine h h' tk _ t hk ?_ fun a ha => ?_
  · rw [numAt_eq]; exact PySem.getD_mem (by rw [List.length_map, Array.length_toList]; omega)
  · obtain ⟨j, hj, rfl⟩ := mem_getD ha
    rw [List.length_map, Array.length_toList] at hj
    rw [← numAt_eq]; exact h2 j (by omega)
end
section
variable {X : Cx} {T : TabsT} {a b : Expr} {pos : Pos}
theorem cr_maxT (hc : X.calm = true) : CallR X (.builtin "max") (fun vs H Q => ∃ (a : Addr) (ns : List Int), vs = [V.ref a] ∧ SqT X.K H a (ns.map V.int) ∧ 0 < ns.length ∧ ∀ m, m ∈ ns → (∀ y, y ∈ ns → y ≤ m) → Q (.int m) H) := by
  intro pins s σ H vs us Q I r h
  obtain ⟨a, ns, rfl, hs, hne, q⟩ := h
  obtain ⟨its, rv, hl, _⟩ := I.tuple hs
  rw [Vals.ref1 r]
  exact max_tupI (I.ok.hd hc) hl rv.ints hne fun h' tk m t' hk h1 h2 => ⟨.int _, H, I.kept hk, ⟨_, rfl⟩, q m h1 h2⟩
theorem cr_minT (hc : X.calm = true) : CallR X (.builtin "min") (fun vs H Q => ∃ (a : Addr) (ns : List Int), vs = [V.ref a] ∧ SqT X.K H a (ns.map V.int) ∧ 0 < ns.length ∧ ∀ m, m ∈ ns → (∀ y, y ∈ ns → m ≤ y) → Q (.int m) H) := by
  intro pins s σ H vs us Q I r h
  obtain ⟨a, ns, rfl, hs, hne, q⟩ := h
  obtain ⟨its, rv, hl, _⟩ := I.tuple hs
  rw [Vals.ref1 r]
  exact min_tupI (I.ok.hd hc) hl rv.ints hne fun h' tk m t' hk h1 h2 => ⟨.int _, H, I.kept hk, ⟨_, rfl⟩, q m h1 h2⟩
theorem cr_sortedTI : CallR X (.builtin "sorted") (fun vs H Q => ∃ (a : Addr) (ns : List Int), vs = [V.ref a] ∧ SqT X.K H a (ns.map V.int) ∧ ns.length < 64 ∧
  ∀ (ns' : List Int) (p : Addr), ns'.Perm ns → ns'.Pairwise (· ≤ ·) → H p = none → Q (.ref p) (upd H p (.lst (ns'.map V.int)))) := by
  intro pins s σ H vs us Q I r h
  obtain ⟨a, ns, rfl, hs, h64, q⟩ := h
  obtain ⟨its, rv, hl, _⟩ := I.tuple hs
  rw [Vals.ref1 r]
  have hi := rv.ints
  refine sorted_tupI hl hi (by rw [hi.length]; exact h64) fun out ns' h1 h2 h3 => ?_
  obtain ⟨ep, he'⟩ := PyProof.Rows.sortedAll_at s.heap its out
  have hlen : (ns'.map V.int).length ≤ sizeLine := by rw [List.length_map, h2.length_eq]; exact small64 h64
  exact ⟨.ref _, upd H (s.heap.objs.size + 1) (.lst (ns'.map V.int)), I.laid (t' := s.toks) (fun _ _ => PyProof.Rows.sortedAll_old) (Nat.le_succ _) ⟨hlen, out.toList, ep, vals_of_ints h1, he'⟩, rfl, q ns' _ h2 h3 (I.hok.fresh (Nat.le_succ _))⟩
/-- insertion sort -/
def insI (x : Int) : List Int → List Int
  | [] => [x]
  | y :: ys => if x ≤ y then x :: y :: ys else y :: insI x ys
def sortI : List Int → List Int
  | [] => []
  | x :: xs => insI x (sortI xs)
theorem insI_perm (x : Int) : ∀ ys : List Int, (insI x ys).Perm (x :: ys)
  | [] => .refl _
  | y :: ys => by
    unfold insI
    split
    · exact .refl _
    · exact ((insI_perm x ys).cons y).trans (.swap ..)
theorem sortI_perm : ∀ xs : List Int, (sortI xs).Perm xs
  | [] => .refl _
  | x :: xs => (insI_perm x _).trans ((sortI_perm xs).cons x)
theorem insI_mem {x z : Int} {ys : List Int} (h : z ∈ insI x ys) : z = x ∨ z ∈ ys := by
  have := (insI_perm x ys).mem_iff.mp h
  simpa using this
theorem insI_rises (x : Int) : ∀ ys : List Int, ys.Pairwise (· ≤ ·) → (insI x ys).Pairwise (· ≤ ·)
  | [], _ => by simp [insI]
  | y :: ys, h => by
    rw [List.pairwise_cons] at h
    unfold insI
    split
    · rename_i hxy
      rw [List.pairwise_cons, List.pairwise_cons]
      exact ⟨fun z hz => by
        rcases List.mem_cons.mp hz with e | hz
        · subst e; exact hxy
        · exact Int.le_trans hxy (h.1 z hz), h.1, h.2⟩
    · rename_i hxy
      rw [List.pairwise_cons]
      exact ⟨fun z hz => by
        rcases insI_mem hz with e | hz
        · subst e; omega
        · exact h.1 z hz, insI_rises x ys h.2⟩
theorem sortI_rises : ∀ xs : List Int, (sortI xs).Pairwise (· ≤ ·)
  | [] => List.Pairwise.nil
  | x :: xs => insI_rises x _ (sortI_rises xs)
@[simp] def gMaxQ (x : O) : Option O := (oSeq x).bind fun xs => (intsOf xs).bind fun ns => if ns.isEmpty = true then none else some (.d (.int (maxI ns)))
@[simp] def gMinQ (x : O) : Option O := (oSeq x).bind fun xs => (intsOf xs).bind fun ns => if ns.isEmpty = true then none else some (.d (.int (minI ns)))
/-- sorted of a tuple of ints -/
@[simp] def gSortT (x : O) : Option O := (oTup x).bind fun xs => (intsOf xs).bind fun ns => if ns.length < 64 then some (.l ((sortI ns).map .int)) else none
theorem o1_maxQ (hc : X.calm = true) : Op1 X T (fun v H Q => canC X (.builtin "max") [v] H Q) gMaxQ := by
  intro G H L x z vx cx ox mx S ez Q hQ
  unfold gMaxQ at ez
  obtain ⟨xs, e1, ez⟩ := bind_eq ez
  obtain ⟨ns, e2, ez⟩ := bind_eq ez
  split at ez
  · cases ez
  · rename_i hne
    cases ez
    have hne' : ns ≠ [] := fun z => by simp [z] at hne
    obtain ⟨p, vs, rfl, hp, hq⟩ := seq_of ox mx S e1
    have := ints_dps e2 hq
    subst this
    have fin : ∀ m, m ∈ ns → (∀ y, y ∈ ns → y ≤ m) → Q (.int m) H := fun m h1 h2 => by
      obtain ⟨a1, a2⟩ := maxI_spec ns hne'
      have hm : m = maxI ns := by
        have h3 := a2 m h1
        have h4 := h2 _ a1
        omega
      rw [hm]
      exact hQ G _ H [] (.refl _) (.d (.int _)) S
    rcases hp with hp | hp
    · exact can_of (cr_max hc) ⟨p, ns, rfl, hp, List.length_pos_iff.mpr hne', fin⟩
    · exact can_of (cr_maxT hc) ⟨p, ns, rfl, hp, List.length_pos_iff.mpr hne', fin⟩
theorem o1_minQ (hc : X.calm = true) : Op1 X T (fun v H Q => canC X (.builtin "min") [v] H Q) gMinQ := by
  intro G H L x z vx cx ox mx S ez Q hQ
  unfold gMinQ at ez
  obtain ⟨xs, e1, ez⟩ := bind_eq ez
  obtain ⟨ns, e2, ez⟩ := bind_eq ez
  split at ez
  · cases ez
  · rename_i hne
    cases ez
    have hne' : ns ≠ [] := fun z => by simp [z] at hne
    obtain ⟨p, vs, rfl, hp, hq⟩ := seq_of ox mx S e1
    have := ints_dps e2 hq
    subst this
    have fin : ∀ m, m ∈ ns → (∀ y, y ∈ ns → m ≤ y) → Q (.int m) H := fun m h1 h2 => by
      obtain ⟨a1, a2⟩ := minI_spec ns hne'
      have hm : m = minI ns := by
        have h3 := a2 m h1
        have h4 := h2 _ a1
        omega
      rw [hm]
      exact hQ G _ H [] (.refl _) (.d (.int _)) S
    rcases hp with hp | hp
    · exact can_of (cr_min hc) ⟨p, ns, rfl, hp, List.length_pos_iff.mpr hne', fin⟩
    · exact can_of (cr_minT hc) ⟨p, ns, rfl, hp, List.length_pos_iff.mpr hne', fin⟩
theorem ints_rel {K : PySem.W.Frag} {G : Hp} : ∀ ns : List Int, DqAll K G (ns.map V.int) (ns.map PyData.int)
  | [] => .nil
  | x :: xs => .cons (.int x) (ints_rel xs)
theorem o1_sortT : Op1 X T (fun v H Q => canC X (.builtin "sorted") [v] H Q) gSortT := by
  intro G H L x z vx cx ox mx S ez Q hQ
  unfold gSortT at ez
  obtain ⟨xs, e1, ez⟩ := bind_eq ez
  obtain ⟨ns, e2, ez⟩ := bind_eq ez
  split at ez
  · rename_i hl
    cases ez
    have ex := oTup_eq e1
    subst ex
    cases ox with
    | d ox =>
      cases ox with
      | tup hp hs =>
        have := ints_dps e2 hs
        subst this
        refine can_of cr_sortedTI ⟨_, ns, rfl, same_tup S.same hp, hl, fun ns' p h1 h2 hf => ?_⟩
        have : ns' = sortI ns := List.Perm.eq_of_pairwise (fun x y _ _ h1 h2 => Int.le_antisymm h1 h2) h2 (sortI_rises ns) (h1.trans (sortI_perm ns).symm)
        subst this
        exact hQ G _ _ [(p, .lst ((sortI ns).map V.int))] (.refl _) (.l (ints_rel _)) (S.owned hf)
  · cases ez
/-! ### a list taken apart -/
@[simp] def tLstl (ts : List Tg) : Tg := fun x e => match x with
  | .list xs => tAll ts xs e
  | _ => none
theorem gv_lst {tgs : List Expr} {k : Nat} {ns : List Nat} {ts : List Tg} {n : Nat} (hc : X.calm = true) (h : GVs X T tgs ns ts) (hl : ts.length = n := by rfl) (hn : ∀ (g : TGs), PGs X tgs g → PG X (.Tuple tgs k pos) (gLst X.K n g)) : GV X T (.Tuple tgs k pos) ns (tLstl ts) := by
  obtain ⟨g, p, h⟩ := h
  refine ⟨_, hn g p, fun x env env' ht G σ H L Lx v hd hR hS Q hQ => ?_⟩
  unfold tLstl at ht
  split at ht
  · rename_i xs
    cases hd with
    | @lst a vs _ h1 h2 =>
      have hlen : ∀ (ts : List Tg) (xs : List D) (env env' : Ev), tAll ts xs env = some env' → xs.length = ts.length := by
        intro ts
        induction ts with
        | nil =>
          intro xs env env' h
          cases xs with
          | nil => rfl
          | cons _ _ => cases h
        | cons t ts ih =>
          intro xs env env' h
          cases xs with
          | nil => cases h
          | cons x xs =>
            unfold tAll at h
            obtain ⟨e1, _, h⟩ := bind_eq h
            simp [ih xs e1 env' h]
      exact ⟨a, vs, rfl, hS.same.seq h1, by rw [dps_len h2, hlen ts xs env env' ht, hl], h xs env env' ht G σ H L Lx vs h2 hR hS Q hQ⟩
  · cases ht
end
end Sh

/-! Shift layer: is True, is False. -/
namespace Sh
open PySem PySem.Spec PyProof.Rows L2
@[simp] def gIsB : O → O → Option Bool
  | .d (.bool a), .d (.bool b) => some (decide (a = b))
  | _, _ => none
@[simp] def gIsNotB : O → O → Option Bool
  | .d (.bool a), .d (.bool b) => some (!decide (a = b))
  | _, _ => none
section
variable {X : Cx} {T : TabsT}
theorem c2_isb : Cmp2 X T .Is gIsB := by
  intro G H L x y k vx vy cx cy ox oy mx my S e
  unfold gIsB at e
  split at e
  · cases e
    cases ox with
    | d ox =>
      cases oy with
      | d oy =>
        cases ox
        cases oy
        exact ⟨_, op_isBl, fun Q q => ⟨_, _, rfl, rfl, q⟩⟩
  · cases e
theorem c2_isnotb : Cmp2 X T .IsNot gIsNotB := by
  intro G H L x y k vx vy cx cy ox oy mx my S e
  unfold gIsNotB at e
  split at e
  · cases e
    cases ox with
    | d ox =>
      cases oy with
      | d oy =>
        cases ox
        cases oy
        exact ⟨_, op_notBl, fun Q q => ⟨_, _, rfl, rfl, q⟩⟩
  · cases e
end
end Sh

/-! Shift layer: any, all of a tuple or a list of ints. -/
namespace Sh
open PySem PySem.Spec PyProof.Rows L2
theorem vals_ints_get : ∀ {ns : List Int} {its : List Value} {i : Nat} {v : Value}, Vals (ns.map V.int) its → its[i]? = some v → ∃ n t, ns[i]? = some n ∧ v = .int n t
  | [], _, i, v, h, e => by
    cases h
    simp at e
  | n :: ns, _, 0, v, h, e => by
    rw [List.map_cons] at h
    cases h with
    | cons h hs =>
      obtain ⟨t, rfl⟩ := h
      simp at e
      exact ⟨n, t, rfl, e.symm⟩
  | n :: ns, _, i + 1, v, h, e => by
    rw [List.map_cons] at h
    cases h with
    | cons h hs =>
      obtain ⟨m, t, a, b⟩ := vals_ints_get (i := i) (v := v) hs (by simpa using e)
      exact ⟨m, t, by simpa using a, b⟩
theorem truth_ints {prog : Program} {w : World} {A : Around} {ns : List Int} {its : List Value} (e : Vals (ns.map V.int) its) :
    TruthOf prog w A (fun i v => its.toArray[i]? = some v) (fun i => (ns.map fun n => n != 0).getD i false) := fun i v s Q E hv hq => by
  have hv' : its[i]? = some v := by simpa using hv
  obtain ⟨n, t, hn, rfl⟩ := vals_ints_get e hv'
  have hg : (ns.map fun n => n != 0).getD i false = (n != 0) := by simp [List.getD_eq_getElem?_getD, hn]
  have hq' : Q ((ns.map fun n => n != 0).getD i false) s := hq
  rw [hg] at hq'
  exact truthy_int hq'
@[simp] def gAnyI (x : O) : Option O := (oTup x).bind fun xs => (intsOf xs).bind fun ns => some (.d (.bool (ns.any fun n => n != 0)))
section
variable {X : Cx} {T : TabsT}
theorem cr_anyI (hc : X.calm = true) : CallR X (.builtin "any") (fun vs H Q => ∃ (a : Addr) (ns : List Int), vs = [V.ref a] ∧ SqT X.K H a (ns.map V.int) ∧ Q (.bl (ns.any fun n => n != 0)) H) := by
  intro pins s σ H vs us Q I r h
  obtain ⟨a, ns, rfl, hs, q⟩ := h
  obtain ⟨its, rv, hl, _⟩ := I.tuple hs
  rw [Vals.ref1 r]
  have hlt : a < s.heap.objs.size := by obtain ⟨_, e, _⟩ := hl; exact Heap.lt_size e
  refine call_any_walk (wpAny_pyIter_tuple hl ?_)
  refine ⟨_, [s.heap.objs.size, a], [s.heap.objs.size], _, _, _, _, rfl, Walks.tuple (A := X.A.in1) (I.ok.hd hc) _ a (Nat.ne_of_lt hlt) its.toArray, ⟨⟨_, Heap.get?_push_size _ rfl, rfl, rfl⟩, Heap.IsTuple.push hl _⟩, truth_ints rv, fun h' tk hk => ?_⟩
  refine ⟨.bl _, H, I.kept fun b o eo => hk b o (fun hmem => ?_) (Heap.get?_push_of_some _ eo), ?_, q⟩
  · rcases List.mem_cons.mp hmem with e1 | hmem
    · exact absurd (e1 ▸ Heap.lt_size eo) (Nat.lt_irrefl _)
    · cases hmem
  · show Value.bool _ = Value.bool _
    have e1 : its.toArray.size = (ns.map fun n => n != 0).length := by
      have := rv.length
      rw [List.length_map] at this
      rw [List.size_toArray, List.length_map, this]
    rw [e1, L2.any_range, List.any_map]
    rfl
theorem o1_anyI (hc : X.calm = true) : Op1 X T (fun v H Q => canC X (.builtin "any") [v] H Q) gAnyI := by
  intro G H L x z vx cx ox mx S ez Q hQ
  unfold gAnyI at ez
  obtain ⟨xs, e1, ez⟩ := bind_eq ez
  obtain ⟨ns, e2, ez⟩ := bind_eq ez
  cases ez
  have ex := oTup_eq e1
  subst ex
  cases ox with
  | d ox =>
    cases ox with
    | tup hp hs =>
      have := ints_dps e2 hs
      subst this
      exact can_of (cr_anyI hc) ⟨_, ns, rfl, same_tup S.same hp, hQ G _ H [] (.refl _) (.d (.bl _)) S⟩
end
end Sh

/-! Shift layer: xs[::-1] of a tuple. -/
namespace Sh
open PySem PySem.Spec PyProof.Rows L2
section
variable {prog : Program} {w : World} {A : Around} {E : Value → Shared → Prop} {s : Shared}
theorem rev_adjust (n : Nat) : Builtin.Slice.sliceAdjust none none (-1) (n : Int) = ((n : Int) - 1, -1) := by
  simp [Builtin.Slice.sliceAdjust]
theorem rev_places (n : Nat) : Builtin.Slice.slicePlaces ((n : Int) - 1) (-1) (-1) = n := by
  have e : (n : Int) - 1 - -1 - 1 = (n : Int) - 1 := by omega
  by_cases h : (-1 : Int) < (n : Int) - 1
  · simp [Builtin.Slice.slicePlaces, h, e]
  · simp [Builtin.Slice.slicePlaces, h]
    omega
theorem sliceApplied_rev {sl : Addr} {vs : Value} {n : Nat} {Q : Int × Int × Nat → Shared → Prop} (hs : s.heap.IsSliceOf sl .none .none vs) (ps : IsPart vs (some (-1)))
    (h : Q ((n : Int) - 1, -1, n) s) : wpAny (model prog w) A (Builtin.Slice.sliceApplied (.ref sl) (pure (n : Int))) Q E s := by
  obtain ⟨os, hos, hcs, hds⟩ := id hs
  unfold Builtin.Slice.sliceApplied Builtin.Slice.sliceFields
  refine wpAny_bind (wpAny_bind (wpAny_field hos hds (x := .none) rfl (wpAny_bind (wpAny_field hos hds (x := .none) rfl (wpAny_bind (wpAny_field hos hds (x := vs) rfl (wpAny_pure ?_)))))))
  refine wpAny_bind (HT.slicePart_ ps ?_)
  show wpAny _ _ (if ((-1 : Int) == 0) = true then _ else _) _ _ s
  rw [if_neg (by decide)]
  refine wpAny_bind (slicePart_none (wpAny_bind (slicePart_none (wpAny_bind (wpAny_pure ?_)))))
  show wpAny _ _ (match Builtin.Slice.sliceAdjust none none (-1) (n : Int) with | (lo, hi) => pure (lo, (-1 : Int), Builtin.Slice.slicePlaces lo hi (-1))) _ _ s
  rw [rev_adjust n]
  show wpAny _ _ (pure ((n : Int) - 1, (-1 : Int), Builtin.Slice.slicePlaces ((n : Int) - 1) (-1) (-1))) _ _ s
  rw [rev_places]
  exact wpAny_pure h
theorem fm_congr {α β : Type} {f g : α → Option β} : ∀ l : List α, (∀ x ∈ l, f x = g x) → l.filterMap f = l.filterMap g
  | [], _ => rfl
  | x :: l, h => by
    rw [List.filterMap_cons, List.filterMap_cons, h x List.mem_cons_self, fm_congr l fun y hy => h y (List.mem_cons_of_mem _ hy)]
theorem rev_pick (xs : Array Value) : ((List.range xs.size).filterMap fun (m : Nat) => xs[((xs.size : Int) - 1 + (m : Int) * (-1)).toNat]?).toArray = xs.toList.reverse.toArray := by
  have e : ((List.range xs.size).filterMap fun (m : Nat) => xs[((xs.size : Int) - 1 + (m : Int) * (-1)).toNat]?) = ((List.range xs.size).map fun k => xs.size - 1 - k).filterMap (xs[·]?) := by
    rw [List.filterMap_map]
    refine fm_congr _ fun m hm => ?_
    have := List.mem_range.mp hm
    have e2 : ((xs.size : Int) - 1 + (m : Int) * (-1)).toNat = xs.size - 1 - m := by omega
    rw [e2]
    rfl
  rw [e, PySem.W.krv_range, List.filterMap_reverse, PySem.W.krv_all]
theorem getItem_tuple_rev {t sl : Addr} {items : Array Value} {vs : Value} {Q : Value → Shared → Prop} (ht : IsTup s.heap t items) (hs : s.heap.IsSliceOf sl .none .none vs) (ps : IsPart vs (some (-1)))
    (h : Q (.ref s.heap.objs.size) { s with heap := s.heap.push { cls := .type "tuple", data := .seq items.toList.reverse.toArray } })
    (hsz : items.size ≤ sizeLine) : wpAny (model prog w) A (getItem (.ref t) (.ref sl)) Q E s := by
  have htake : sizeOk (.seq items.toList.reverse.toArray) := by
    show items.toList.reverse.toArray.size ≤ sizeLine
    rw [List.size_toArray, List.length_reverse, Array.length_toList]
    exact hsz
  obtain ⟨os, hos, hcs, hds⟩ := id hs
  have hTs : s.TypeIs (.ref sl) "slice" := ⟨os, hos, hcs⟩
  unfold getItem
  try with_reducible refine wpAny_holding ?_
  first | refine wpAny_bind (wpAny_pure ?_) | skip
  refine wpAny_bind (wpAny_sequenceKey ht.typeIs (by decide) ?_)
  refine wpAny_bind (wpAny_callSpecial?_slot (name := Str.ofString "__getitem__") ht.typeIs PyProof.Rows.slot_tuple_getitem
    (wpAny_call_entry PyProof.Rows.slot_tuple_getitem ht.typeIs entry_tuple_getitem ?_ (args_tuple_getitem _ _)))
  show wpAny _ _ (Builtin.Tuple.tupleItemsOf (.ref t) >>= _) _ _ s
  refine wpAny_bind (tupleItemsOf_ ht ?_)
  refine wpAny_bind (wpAny_typeOf hTs ?_)
  rw [if_pos (by decide)]
  refine wpAny_bind (sliceApplied_rev hs ps ?_)
  have hno : ¬ ((((items.size : Int) - 1) == 0 && (-1 : Int) == 1 && items.size == items.size) = true) := by
    intro q
    rw [Bool.and_eq_true, Bool.and_eq_true] at q
    exact absurd q.1.2 (by decide)
  show wpAny _ _ (if (((items.size : Int) - 1) == 0 && (-1 : Int) == 1 && items.size == items.size) = true then _ else _) _ _ s
  rw [if_neg hno, rev_pick]
  first
    | exact wpAny_bind (m := Builtin.Tuple.tupleExact _) (wpAny_newObj_type (wpAny_pure ⟨_, rfl, wpAny_pure h⟩) htake)
    | exact wpAny_bind (m := Builtin.Tuple.tupleExact _) (wpAny_newObj_type (wpAny_bind (wpAny_pure (wpAny_pure ⟨_, rfl, wpAny_pure h⟩))) htake)
    | exact wpAny_bind (wpAny_bind (m := Builtin.Tuple.tupleExact _) (wpAny_newObj_type (wpAny_pure (wpAny_pure ⟨_, rfl, wpAny_pure h⟩)) htake))
    | exact wpAny_bind (wpAny_bind (m := Builtin.Tuple.tupleExact _) (wpAny_newObj_type (wpAny_pure ⟨_, rfl, wpAny_pure h⟩) htake))
end
section
variable {X : Cx} {T : TabsT} {a : Expr} {pos : Pos}
/-- xs[::-1] of a list or a tuple -/
def rRev (K : PySem.W.Frag) : V → Hp → VK → Prop := fun x H Q => ∃ a xs, x = .ref a ∧ ((SqL K H a xs ∧ ∀ p, H p = none → Q (.ref p) (upd H p (.lst xs.reverse))) ∨ (SqT K H a xs ∧ ∀ p, H p = none → Q (.ref p) (upd H p (.tup xs.reverse))))
theorem pe_revQ {e : Expr} {te : TE} {k : Nat} {p1 p2 p3 pos : Pos} (he : PE X e te) : PE X (.Subscript e (.Slice none none (some (.UnaryOp .USub (.Constant (.int 1) k p1) p2)) p3) pos) (tUn (rRev X.K) te) := by
  refine ⟨fun pins s σ H Q I h => ?_⟩
  refine Subscript_ (thn (he.run pins s σ H _ I h) fun v s1 ⟨x, H1, I1, r1, q1⟩ => ?_)
  obtain ⟨a, xs, ex, q⟩ := q1
  subst ex
  cases r1
  have hst : PO X (some (.UnaryOp .USub (.Constant (.int 1) k p1) p2)) (tPart (tUn (rU fun i => .int (-i)) (tC (.int 1)))) := po_some (pe_un un_neg pe_int)
  refine wpAny_Slice (thn (po_none.run pins s1 σ H1 (fun o H2 => o = none ∧ H2 = H1) I1 ⟨rfl, rfl⟩) fun vl s2 ⟨l, H2, I2, pl, el, e2⟩ => ?_)
  subst el e2
  cases pl
  refine thn (po_none.run pins s2 σ H2 (fun o H3 => o = none ∧ H3 = H2) I2 ⟨rfl, rfl⟩) fun vu s3 ⟨u, H3, I3, pu, eu, e3⟩ => ?_
  subst eu e3
  cases pu
  refine thn (hst.run pins s3 σ H3 (fun o H4 => o = some (-1) ∧ H4 = H3) I3 ⟨1, rfl, -1, rfl, rfl, rfl⟩) fun vs s4 ⟨o, H4, I4, ps, eo, e4⟩ => ?_
  subst eo e4
  have I5 : Inv X pins σ H4 { s4 with heap := s4.heap.push { cls := .type "slice", data := .fields #[.none, .none, vs] } } := I4.kept (t' := s4.toks) fun b ob q => Heap.get?_push_of_some _ q
  show wpAny (model X.prog X.w) X.A (subscriptTail e (.Slice none none (some (.UnaryOp .USub (.Constant (.int 1) k p1) p2)) p3) (.ref a) (.ref s4.heap.objs.size)) (EP X pins σ Q) X.xe { s4 with heap := s4.heap.push { cls := .type "slice", data := .fields #[.none, .none, vs] } }
  rcases q with ⟨hx, q⟩ | ⟨hx, q⟩
  · obtain ⟨its, r, ht, hz⟩ := I5.list hx
    have hlen := r.length
    refine tail_any (ops := [.ref a, .ref s4.heap.objs.size]) ht.isList.typeIs (PySem.slot_list_getitem.lookup) ?_ (by with_unfolding_all rfl)
    refine wpAny_getItem_list_slice ht.isList (Heap.IsSliceOf.new _ .none .none vs) .none .none ps (by decide) ?_ (by rw [List.size_toArray]; omega)
    rw [PySem.W.krv_pick]
    refine ⟨.ref _, _, I5.laid (t' := s4.toks) (o := .lst xs.reverse) (fun b ob q => Heap.get?_push_of_some _ q) (Nat.le_refl _) ?_, rfl, q _ (I5.hok.fresh (Nat.le_refl _))⟩
    exact ⟨by rw [List.length_reverse]; exact hz, _, 0, r.reverse, Heap.get?_push_size _ rfl⟩
  · obtain ⟨its, r, ht, hz⟩ := I5.tuple hx
    have hlen := r.length
    refine tail_any (ops := [.ref a, .ref s4.heap.objs.size]) ht.typeIs (PyProof.Rows.slot_tuple_getitem.lookup) ?_ (by with_unfolding_all rfl)
    refine getItem_tuple_rev ht (Heap.IsSliceOf.new _ .none .none vs) ps ?_ (by rw [List.size_toArray]; omega)
    refine ⟨.ref _, _, I5.laid (t' := s4.toks) (o := .tup xs.reverse) (fun b ob q => Heap.get?_push_of_some _ q) (Nat.le_refl _) (show ObjOk X.prog X.w _ _ _ (.tup xs.reverse) from ⟨by rw [List.length_reverse]; exact hz, its.reverse, r.reverse, IsTup.new _ _⟩), rfl, q _ (I5.hok.fresh (Nat.le_refl _))⟩
@[simp] def gRevQ : O → Option O
  | .d (.tuple xs) => some (.d (.tuple xs.reverse))
  | x => (oLst x).bind fun xs => some (.l xs.reverse)
theorem ev_revQ {k : Nat} {p1 p2 p3 : Pos} {fa : ExP} (ha : OV X T a fa) : EV X T (.Subscript a (.Slice none none (some (.UnaryOp .USub (.Constant (.int 1) k p1) p2)) p3) pos) (eOp1 gRevQ fa) := by
  refine ev_of1 (r := rRev X.K) ?_ ha fun {ta} pa => pe_revQ pa
  intro G H L x z vx cx ox mx S ez Q hQ
  unfold gRevQ at ez
  split at ez
  · cases ez
    cases ox with
    | d ox =>
      cases ox with
      | @tup p vs _ h hs =>
        refine ⟨p, vs, rfl, .inr ⟨same_tup S.same h, fun q hq => ?_⟩⟩
        have m := same_new (o := .tup vs.reverse) (S.fresh hq).1
        exact hQ _ _ _ [] m (.d (.tup upd_same (dps_mono m _ _ (dps_rev hs)))) (S.frozen hq)
  · obtain ⟨xs, e1, ez⟩ := bind_eq ez
    cases ez
    obtain ⟨p, vs, rfl, hp, hq⟩ := lst_of ox mx S e1
    exact ⟨p, vs, rfl, .inl ⟨hp, fun q hq2 => hQ G _ _ [(q, .lst vs.reverse)] (.refl _) (.l (dps_rev hq)) (S.owned hq2)⟩⟩
end
end Sh

/-! Shift layer: sum of a tuple of ints. -/
namespace Sh
open PySem PySem.Spec PyProof.Rows L2
section
variable {prog : Program} {w : World} {A : Around} {E : Value → Shared → Prop} {s : Shared} {l : Addr}
theorem sum_tupG {xs : Array (Int × Tok)} {Q : Value → Shared → Prop} (hh : A.handled = none) (hl : s.heap.IsTuple l (intItems xs))
    (h : ∀ h' tk t', (∀ b o, s.heap.get? b = some o → h'.get? b = some o) → Q (.int (preSum (numAt xs) xs.size) t') { s with heap := h', toks := tk }) :
    wpAny (model prog w) A (call (.builtin "sum") [.ref l]) Q E s := by
  refine call_sum_walkG (iter_tupI hl fun s₂ e st hfp hlI => ?_)
  subst e
  refine ⟨_, _, _, _, _, _, numAt xs, rfl, Walks.tuple (A := A.in1) hh _ l hlI (intItems xs), st, hfp, (fun _ _ => intItems_at), fun h' tk t' hk => ?_⟩
  have := h h' tk t' (old_keptT hk)
  simpa [intItems] using this
theorem sum_tupI {its : List Value} {ns : List Int} {Q : Value → Shared → Prop} (hh : A.handled = none) (hl : IsTup s.heap l its.toArray) (hi : IntsAre its ns)
    (h : ∀ h' tk t', (∀ b o, s.heap.get? b = some o → h'.get? b = some o) → Q (.int ns.sum t') { s with heap := h', toks := tk }) : wpAny (model prog w) A (call (.builtin "sum") [.ref l]) Q E s := by
  obtain ⟨xs, e⟩ := hi.allInts.items
  have hn : numsOf (intItems xs).toList = ns := by rw [← e]; exact hi.numsOf
  rw [nums_intItems] at hn
  rw [e] at hl
  refine sum_tupG hh hl fun h' tk t' hk => ?_
  have := h h' tk t' hk
  rw [preSum_eq, List.take_of_length_le (by simp), hn]; exact this
end
@[simp] def gSumQ (x : O) : Option O := (oSeq x).bind fun xs => (intsOf xs).bind fun ns => some (.d (.int ns.sum))
section
variable {X : Cx} {T : TabsT}
theorem cr_sumT (hc : X.calm = true) : CallR X (.builtin "sum") (fun vs H Q => ∃ (a : Addr) (ns : List Int), vs = [V.ref a] ∧ SqT X.K H a (ns.map V.int) ∧ Q (.int ns.sum) H) := by
  intro pins s σ H vs us Q I r h
  obtain ⟨a, ns, rfl, hs, q⟩ := h
  obtain ⟨its, rv, hl, _⟩ := I.tuple hs
  rw [Vals.ref1 r]
  exact sum_tupI (I.ok.hd hc) hl rv.ints fun h' tk t' hk => ⟨.int _, H, I.kept hk, ⟨_, rfl⟩, q⟩
theorem o1_sumQ (hc : X.calm = true) : Op1 X T (fun v H Q => canC X (.builtin "sum") [v] H Q) gSumQ := by
  intro G H L x z vx cx ox mx S ez Q hQ
  unfold gSumQ at ez
  obtain ⟨xs, e1, ez⟩ := bind_eq ez
  obtain ⟨ns, e2, ez⟩ := bind_eq ez
  cases ez
  obtain ⟨p, vs, rfl, hp, hq⟩ := seq_of ox mx S e1
  have := ints_dps e2 hq
  subst this
  have fin := hQ G (.int ns.sum) H [] (.refl _) (.d (.int _)) S
  rcases hp with hp | hp
  · exact can_of (cr_sum hc) ⟨p, ns, rfl, hp, fin⟩
  · exact can_of (cr_sumT hc) ⟨p, ns, rfl, hp, fin⟩
end
end Sh

/-! Shift layer: xs.index(y), y among the items. -/
namespace Sh
open PySem PySem.Spec PyProof.Rows L2
section
variable {X : Cx} {T : TabsT} {a b : Expr}
def idxD (xs : List D) (d : D) : Option Nat := xs.findIdx? (fun z => PyData.eqv z d)
@[simp] def eIdx (fa : ExP) (fb : Ex) : Ex := fun e => (fa e).bind fun p => (res p.2 p.1).bind fun o1 => (oLst o1).bind fun _ => (fb p.2).bind fun q => (res q.2 p.1).bind fun x => (oLst x).bind fun xs => (oDat q.1).bind fun dy =>
  if SeqAt.shaped (.list xs) = true ∧ SeqAt.shaped dy = true then (idxD xs dy).bind fun j => some (.d (.int (j : Nat)), q.2) else none
theorem dat_lst {o : O} {xs : List D} (h : oLst o = some xs) : oDat o = some (.list xs) := by
  rcases oLst_eq h with rfl | rfl <;> rfl
theorem ev_indexU {p2 p3 : Pos} {fa : ExP} {fb : Ex} (hu : X.A.units + 66 < cLine) (ha : OV X T a fa) (hb : EV X T b fb)
    (hs : starEach [b] X.env = (false, eval b X.env) :: starEach [] X.env := by rfl)
    (hp : ∀ {to : TE} {t : TA}, MtR X "list.index" (rIndexD X.K) → PE X a to → PA X [b] t → PE X (.Call (.Attribute a "index" p2) [b] [] p3) (tBM X.K "list" (rIndexD X.K) to t) := by exact fun h0 h1 h2 => pe_bm PySem.F.plainAttrs_list PySem.F.slot_list_index PySem.F.type_list_index h0 h1 h2) :
    EV X T (.Call (.Attribute a "index" p2) [b] [] p3) (eIdx fa fb) := by
  obtain ⟨ta, pa, ha⟩ := ha
  obtain ⟨tb, pb, hb⟩ := hb
  refine ⟨_, hp (mt_indexD (by omega)) pa (pa_cons pb pa_nil hs), fun env o env' hf G σ H L Lx hR hS Q hQ => ?_⟩
  unfold eIdx at hf
  obtain ⟨⟨r1, env1⟩, e1, hf⟩ := bind_eq hf
  obtain ⟨o1, e2, hf⟩ := bind_eq hf
  obtain ⟨xs0, e3, hf⟩ := bind_eq hf
  obtain ⟨⟨o2, env2⟩, e4, hf⟩ := bind_eq hf
  obtain ⟨x, e5, hf⟩ := bind_eq hf
  obtain ⟨xs, e6, hf⟩ := bind_eq hf
  obtain ⟨dy, e7, hf⟩ := bind_eq hf
  split at hf
  · rename_i hsh
    obtain ⟨j, e8, hf⟩ := bind_eq hf
    cases hf
    refine ha env r1 env1 e1 G σ H L Lx hR hS _ fun G1 v1 H1 L1 Lo1 s1 w1 R1 S1 => ?_
    obtain ⟨cx, ox, mx⟩ := res_of w1 R1 e2
    obtain ⟨p, vs, rfl, hpq, _⟩ := lst_of ox (fun c hc => (List.mem_append.mp (mx c hc)).elim (fun q => List.mem_append_left _ q) fun q => List.mem_append_right _ (List.mem_append_left _ q)) S1 e3
    refine ⟨.inl ⟨rfl, vs, hpq⟩, ?_⟩
    refine hb env1 o2 env2 e4 G1 σ H1 L1 (Lo1 ++ Lx) R1 S1.comm3 _ fun G2 v2 H2 L2 Lo2 s2 ot2 R2 S2 => ?_
    obtain ⟨cx2, ox2, mx2⟩ := res_of (w1.mono s2) R2 e5
    have d1 := dat_of ox2 (fun c hc => by
      rcases List.mem_append.mp (mx2 c hc) with q | q
      · exact List.mem_append_right _ (List.mem_append_right _ (List.mem_append_left _ q))
      · exact List.mem_append_right _ (List.mem_append_left _ q)) S2 (dat_lst e6)
    have d2 := dat_of ot2 (fun c hc => List.mem_append_left _ hc) S2 e7
    unfold idxD at e8
    rw [List.findIdx?_eq_some_iff_getElem] at e8
    obtain ⟨hj, hz, hno⟩ := e8
    refine ⟨p, v2, dy, xs, j, xs[j], rfl, rfl, d1.dp (noD_shaped hsh.1), d2.dp (noD_shaped hsh.2), hsh.1, hsh.2, List.getElem?_eq_getElem hj, hz, fun m z' hm hz' => ?_, ?_⟩
    · obtain ⟨hm', e9⟩ := List.getElem?_eq_some_iff.mp hz'
      have := hno m hm
      rw [e9] at this
      simpa using this
    · exact hQ G2 (.int (j : Nat)) H2 L2 [] (s1.trans s2) (.d (.int _)) R2 (S2.sub (sub_tail2 (E := [])))
  · cases hf
theorem ev_index {k : Nat} {p2 p3 : Pos} {fa : ExP} {fb : Ex} (hr : Room k X.A) (ha : OV X T a fa) (hb : EV X T b fb)
    (hs : starEach [b] X.env = (false, eval b X.env) :: starEach [] X.env := by rfl)
    (hp : ∀ {to : TE} {t : TA}, MtR X "list.index" (rIndexD X.K) → PE X a to → PA X [b] t → PE X (.Call (.Attribute a "index" p2) [b] [] p3) (tBM X.K "list" (rIndexD X.K) to t) := by exact fun h0 h1 h2 => pe_bm PySem.F.plainAttrs_list PySem.F.slot_list_index PySem.F.type_list_index h0 h1 h2) :
    EV X T (.Call (.Attribute a "index" p2) [b] [] p3) (eIdx fa fb) := ev_indexU (by have := hr.un; omega) ha hb hs hp
end
end Sh

/-! Shift layer: owned dicts: keys, what a key finds, storing. (Under way: no rule of the machine here yet.) -/
namespace Sh
open PySem PySem.Spec PyProof.Rows L2
mutual
def eqK : D → D → Bool
  | .int i, .int j => decide (i = j)
  | .str x, .str y => decide (x = y)
  | .tuple xs, .tuple ys => eqKs xs ys
  | _, _ => false
def eqKs : List D → List D → Bool
  | [], [] => true
  | x :: xs, y :: ys => eqK x y && eqKs xs ys
  | _, _ => false
end
def dFind (kvs : List (D × D)) (d : D) : Option D := (kvs.find? fun p => eqK p.1 d).map (·.2)
def dPut (kvs : List (D × D)) (d v : D) : List (D × D) := if (kvs.any fun p => eqK p.1 d) = true then kvs.map (fun p => if eqK p.1 d = true then (p.1, v) else p) else kvs ++ [(d, v)]
theorem eqK_key (k k' : Key) : eqK (keyD k) (keyD k') = decide (k = k') := by
  cases k <;> cases k' <;> simp [keyD, eqK]
theorem eqKs_keys : ∀ ks ks' : List Key, eqKs (ks.map keyD) (ks'.map keyD) = decide (ks = ks')
  | [], [] => by simp [eqKs]
  | [], _ :: _ => by simp [eqKs]
  | _ :: _, [] => by simp [eqKs]
  | k :: ks, k' :: ks' => by
    have ih := eqKs_keys ks ks'
    rw [List.map_cons, List.map_cons]
    unfold eqKs
    rw [eqK_key, ih]
    simp
theorem eqK_keys (ks ks' : List Key) : eqK (.tuple (ks.map keyD)) (.tuple (ks'.map keyD)) = decide (ks = ks') := by
  unfold eqK
  exact eqKs_keys ks ks'
/-- found at both, or at none -/
inductive OpD (K : PySem.W.Frag) (G : Hp) : Option D → Option V → Prop where
  | none : OpD K G none none
  | some {d : D} {v : V} : Dq K G v d → OpD K G (some d) (some v)
section
variable {K : PySem.W.Frag} {G : Hp}
theorem find_k {k : Key} : ∀ {kvs : List (D × D)} {ks : List (Key × V)}, KVr K G kvs ks → OpD K G (dFind kvs (keyD k)) (valV ks k)
  | _, _, .nil => .none
  | p :: kvs, q :: ks, .cons h hs => by
    have ih := find_k (k := k) hs
    obtain ⟨h1, h2⟩ := h
    by_cases e : q.1 = k
    · rw [valV_pos e]
      unfold dFind
      rw [List.find?_cons_of_pos (by rw [h1, eqK_key, decide_eq_true e])]
      exact .some h2
    · rw [valV_neg e]
      unfold dFind
      rw [List.find?_cons_of_neg (by rw [h1, eqK_key, decide_eq_false e]; simp)]
      exact ih
theorem find_t {k : List Key} : ∀ {kvs : List (D × D)} {ks : List (List Key × V)}, KVt K G kvs ks → OpD K G (dFind kvs (.tuple (k.map keyD))) (valV ks k)
  | _, _, .nil => .none
  | p :: kvs, q :: ks, .cons h hs => by
    have ih := find_t (k := k) hs
    obtain ⟨h1, h2⟩ := h
    by_cases e : q.1 = k
    · rw [valV_pos e]
      unfold dFind
      rw [List.find?_cons_of_pos (by rw [h1, eqK_keys, decide_eq_true e])]
      exact .some h2
    · rw [valV_neg e]
      unfold dFind
      rw [List.find?_cons_of_neg (by rw [h1, eqK_keys, decide_eq_false e]; simp)]
      exact ih
theorem any_k {k : Key} : ∀ {kvs : List (D × D)} {ks : List (Key × V)}, KVr K G kvs ks → (kvs.any fun p => eqK p.1 (keyD k)) = ks.any fun q => decide (q.1 = k)
  | _, _, .nil => rfl
  | p :: kvs, q :: ks, .cons h hs => by
    rw [List.any_cons, List.any_cons, any_k hs, h.1, eqK_key]
theorem any_t {k : List Key} : ∀ {kvs : List (D × D)} {ks : List (List Key × V)}, KVt K G kvs ks → (kvs.any fun p => eqK p.1 (.tuple (k.map keyD))) = ks.any fun q => decide (q.1 = k)
  | _, _, .nil => rfl
  | p :: kvs, q :: ks, .cons h hs => by
    rw [List.any_cons, List.any_cons, any_t hs, h.1, eqK_keys]
theorem map_k {k : Key} {v : V} {d : D} (hd : Dq K G v d) : ∀ {kvs : List (D × D)} {ks : List (Key × V)}, KVr K G kvs ks → KVr K G (kvs.map fun p => if eqK p.1 (keyD k) = true then (p.1, d) else p) (ks.map fun q => if q.1 = k then (q.1, v) else q)
  | _, _, .nil => .nil
  | p :: kvs, q :: ks, .cons h hs => by
    rw [List.map_cons, List.map_cons]
    refine .cons ?_ (map_k hd hs)
    by_cases e : q.1 = k
    · rw [if_pos e, if_pos (by rw [h.1, eqK_key, decide_eq_true e])]
      exact ⟨h.1, hd⟩
    · rw [if_neg e, if_neg (by rw [h.1, eqK_key, decide_eq_false e]; simp)]
      exact h
theorem map_t {k : List Key} {v : V} {d : D} (hd : Dq K G v d) : ∀ {kvs : List (D × D)} {ks : List (List Key × V)}, KVt K G kvs ks → KVt K G (kvs.map fun p => if eqK p.1 (.tuple (k.map keyD)) = true then (p.1, d) else p) (ks.map fun q => if q.1 = k then (q.1, v) else q)
  | _, _, .nil => .nil
  | p :: kvs, q :: ks, .cons h hs => by
    rw [List.map_cons, List.map_cons]
    refine .cons ?_ (map_t hd hs)
    by_cases e : q.1 = k
    · rw [if_pos e, if_pos (by rw [h.1, eqK_keys, decide_eq_true e])]
      exact ⟨h.1, hd⟩
    · rw [if_neg e, if_neg (by rw [h.1, eqK_keys, decide_eq_false e]; simp)]
      exact h
theorem snoc_k {p : D × D} {q : Key × V} (h : p.1 = keyD q.1 ∧ Dq K G q.2 p.2) : ∀ {kvs : List (D × D)} {ks : List (Key × V)}, KVr K G kvs ks → KVr K G (kvs ++ [p]) (ks ++ [q])
  | _, _, .nil => .cons h .nil
  | _ :: _, _ :: _, .cons h1 hs => .cons h1 (snoc_k h hs)
theorem snoc_t {p : D × D} {q : List Key × V} (h : p.1 = .tuple (q.1.map keyD) ∧ Dq K G q.2 p.2) : ∀ {kvs : List (D × D)} {ks : List (List Key × V)}, KVt K G kvs ks → KVt K G (kvs ++ [p]) (ks ++ [q])
  | _, _, .nil => .cons h .nil
  | _ :: _, _ :: _, .cons h1 hs => .cons h1 (snoc_t h hs)
theorem put_k {k : Key} {v : V} {d : D} {kvs : List (D × D)} {ks : List (Key × V)} (h : KVr K G kvs ks) (hd : Dq K G v d) : KVr K G (dPut kvs (keyD k) d) (putK ks k v) := by
  unfold dPut putK
  rw [any_k h]
  split
  · exact map_k hd h
  · exact snoc_k ⟨rfl, hd⟩ h
theorem put_t {k : List Key} {v : V} {d : D} {kvs : List (D × D)} {ks : List (List Key × V)} (h : KVt K G kvs ks) (hd : Dq K G v d) : KVt K G (dPut kvs (.tuple (k.map keyD)) d) (putK ks k v) := by
  unfold dPut putK
  rw [any_t h]
  split
  · exact map_t hd h
  · exact snoc_t ⟨rfl, hd⟩ h
end
end Sh

/-! Shift layer: rules for owned dicts (under way). -/
namespace Sh
open PySem PySem.Spec PyProof.Rows L2
section
variable {X : Cx} {T : TabsT} {pos : Pos}
@[simp] def eDict (t : Bool) : Ex := fun e => some (.m t [], e)
theorem ev_dnewK : EV X T (.Dict [] [] pos) (eDict false) := ⟨_, pe_dnewK, fun env o env' hf G σ H L Lx hR hS Q hQ => by
  cases hf
  exact fun p hp => hQ G (.ref p) _ L [(p, .dK [])] (.refl _) (.m (.k .nil)) hR (hS.owned hp)⟩
theorem ev_dnewT : EV X T (.Dict [] [] pos) (eDict true) := ⟨_, pe_dnewT, fun env o env' hf G σ H L Lx hR hS Q hQ => by
  cases hf
  exact fun p hp => hQ G (.ref p) _ L [(p, .dT [])] (.refl _) (.m (.t .nil)) hR (hS.owned hp)⟩
end
end Sh

/-! Shift layer: dicts: read, asked, stored, made of a pair, walked, moved. -/
namespace Sh
open PySem PySem.Spec PyProof.Rows L2
@[simp] def isK : D → Bool
  | .int _ => true
  | .str _ => true
  | _ => false
@[simp] def keyOk : Bool → D → Bool
  | false, k => isK k
  | true, .tuple ks => ks.all isK
  | true, _ => false
@[simp] def oDct : O → Option (Bool × List (D × D))
  | .m t kvs => some (t, kvs)
  | .k t kvs => some (t, kvs)
  | .d (.dict ((.bool true, .none) :: kvs)) => some (true, kvs)
  | .d (.dict ((.none, _) :: _)) => none
  | .d (.dict ((.bool false, _) :: _)) => none
  | .d (.dict kvs) => some (false, kvs)
  | _ => none
@[simp] def oD : O → Option D
  | .d x => some x
  | _ => none
/-- x[y], x a dict -/
@[simp] def gDItem (x y : O) : Option O := (oDct x).bind fun p => (oD y).bind fun k => if keyOk p.1 k = true then (dFind p.2 k).bind fun v => some (.d v) else none
/-- x in y, y a dict -/
@[simp] def gDIn (x y : O) : Option Bool := (oDct y).bind fun p => (oD x).bind fun k => if keyOk p.1 k = true then some (dFind p.2 k).isSome else none
@[simp] def gDNotIn (x y : O) : Option Bool := (gDIn x y).bind fun b => some (!b)
/-- d.get(k, x) -/
@[simp] def eGet2 (j : Nat) (fk fx : Ex) : Ex := fun e => (slot e j).bind fun o0 => (oDct o0).bind fun _ => (fk e).bind fun p => (fx p.2).bind fun q => (slot q.2 j).bind fun o => (oDct o).bind fun c => (oD p.1).bind fun k => (oD q.1).bind fun z =>
  if keyOk c.1 k = true then some (.d ((dFind c.2 k).getD z), q.2) else none
/-- d[k] = v -/
@[simp] def sDPut' (j : Nat) (fk fv : Ex) : Sx := fun e => (fv e).bind fun p => (slot p.2 j).bind fun _ => (fk p.2).bind fun q => (slot q.2 j).bind fun o => (match o with
  | .m t kvs => (oD q.1).bind fun k => (frz p.1).bind fun y => if keyOk t k = true ∧ kvs.length < 1000000 then some (.nx (q.2.set j (some (.m t (dPut kvs k y))))) else none
  | _ => none)
/-- {k: v} -/
@[simp] def eDict1 (fk fv : Ex) : Ex := fun e => (fk e).bind fun p => (fv p.2).bind fun q => (oD p.1).bind fun k => (oD q.1).bind fun v => if isK k = true then some (.m false [(k, v)], q.2) else none
/-- no walked dict stands in a slot -/
def noK : Ev → Bool
  | [] => true
  | some (.k _ _) :: e => false
  | _ :: e => noK e
@[simp] def isWk : O → Bool
  | .k _ _ => true
  | _ => false
/-- while the slot's dict is only read; it is gone behind the statement -/
def sLock (j : Nat) (f : Sx) : Sx := fun e => match slot e j with
  | some (.m t kvs) => (f (e.set j (some (.k t kvs)))).bind fun o => (match o with
    | .nx e1 => if noK (e1.set j none) = true then some (.nx (e1.set j none)) else none
    | .rt r e1 => if noK (e1.set j none) = true ∧ isWk r = false then some (.rt r (e1.set j none)) else none
    | .bk _ => none
    | .ex _ _ => none)
  | _ => none
@[simp] def iDict (j : Nat) : ExI := fun e => match slot e j with
  | some (.k false kvs) => some (kvs.map (·.1), e)
  | _ => none
/-- x = y, y's thing moved -/
@[simp] def sMove (i j : Nat) : Sx := fun e => (slot e j).bind fun o => some (.nx ((e.set j none).set i (some o)))
def del (G : Hp) (p : Addr) : Hp := fun b => if b = p then none else G b
section
variable {K : PySem.W.Frag} {T : TabsT} {G H : Hp} {L : List Cell} {p : Addr}
theorem del_ne {b : Addr} (h : b ≠ p) : del G p b = G b := by unfold del; rw [if_neg h]
theorem del_self : del G p p = none := by unfold del; rw [if_pos rfl]
theorem keyOk_k {k : D} (h : isK k = true) : ∃ key, k = keyD key := by
  cases k <;> simp at h
  · exact ⟨.inl _, rfl⟩
  · exact ⟨.inr _, rfl⟩
theorem keyOk_ks : ∀ {ks : List D}, ks.all isK = true → ∃ keys : List Key, ks = keys.map keyD
  | [], _ => ⟨[], rfl⟩
  | k :: ks, h => by
    rw [List.all_cons, Bool.and_eq_true] at h
    obtain ⟨a, e⟩ := keyOk_k h.1
    obtain ⟨b, e2⟩ := keyOk_ks h.2
    exact ⟨a :: b, by rw [e, e2]; rfl⟩
theorem dq_key {key : Key} {v : V} (h : Dq K G v (keyD key)) : v = kV key := by
  cases key <;> (simp only [keyD] at h; cases h; rfl)
theorem key_dq (key : Key) : Dq K G (kV key) (keyD key) := by
  cases key
  · exact .int _
  · exact .str _
theorem dq_keys : ∀ {keys : List Key} {vs : List V}, DqAll K G vs (keys.map keyD) → vs = keys.map kV
  | [], _, h => by
    cases h
    rfl
  | k :: keys, _, h => by
    cases h with
    | cons h1 h2 => rw [dq_key h1, dq_keys h2]; rfl
theorem oDct_k {ks : List (Key × V)} {kvs : List (D × D)} (h : DqK K G ks kvs) : oDct (.d (.dict kvs)) = some (false, kvs) := by
  cases h with
  | nil => rfl
  | @cons k v d ks kvs h hs => cases k <;> rfl
/-- what a dict holds at a key -/
theorem dget_of {x : O} {vx vy : V} {c : List Cell} {t : Bool} {kvs : List (D × D)} {k : D} (ox : OT K G x vx c) (mx : ∀ z ∈ c, z ∈ L) (S : Sep T G H L) (e : oDct x = some (t, kvs)) (ok : keyOk t k = true) (hk : Dq K G vy k) :
    ∃ a o, vx = .ref a ∧ DGet H a vy o ∧ OpD K G (dFind kvs k) o := by
  have main : ∀ {p : Addr} {u : HO}, DR K G t kvs u → Rd H p u → ∃ o, DGet H p vy o ∧ OpD K G (dFind kvs k) o := fun {p u} d r => by
    cases d with
    | @k _ ks d =>
      obtain ⟨key, rfl⟩ := keyOk_k ok
      exact ⟨_, .inl ⟨ks, key, r, dq_key hk, rfl⟩, find_k d⟩
    | @t _ ks d =>
      cases hk with
      | tup h1 h2 =>
        obtain ⟨keys, rfl⟩ := keyOk_ks ok
        have := dq_keys h2
        subst this
        exact ⟨_, .inr ⟨ks, keys, _, r, rfl, S.same _ _ h1, rfl⟩, find_t d⟩
      | _ => cases ok
  cases ox with
  | d h =>
    cases h with
    | @dcK a ks kvs0 h hs =>
      rw [oDct_k hs] at e
      cases e
      obtain ⟨o, h1, h2⟩ := main (.k (dq_kvr hs)) (.inl (S.same _ _ h))
      exact ⟨_, o, rfl, h1, h2⟩
    | @dcT a ks kvs0 h hs =>
      cases e
      obtain ⟨o, h1, h2⟩ := main (.t (dq_kvt hs)) (.inl (S.same _ _ h))
      exact ⟨_, o, rfl, h1, h2⟩
    | _ => cases e
  | l h => cases e
  | g h => cases e
  | @m _ _ p u d =>
    cases e
    obtain ⟨o, h1, h2⟩ := main d (.inl (S.at_ _ (mx _ List.mem_cons_self)).1)
    exact ⟨p, o, rfl, h1, h2⟩
  | @k _ _ p od u d h =>
    cases e
    obtain ⟨o, h1, h2⟩ := main d (.inr ⟨_, S.same _ _ h⟩)
    exact ⟨p, o, rfl, h1, h2⟩
theorem isd_of {x : O} {vx : V} {c : List Cell} {z : Bool × List (D × D)} (ox : OT K G x vx c) (mx : ∀ z ∈ c, z ∈ L) (S : Sep T G H L) (e : oDct x = some z) : ∃ a, vx = .ref a ∧ IsD H a := by
  have main : ∀ {p : Addr} {u : HO} {t : Bool} {kvs : List (D × D)}, DR K G t kvs u → Rd H p u → IsD H p := fun {p u t kvs} d r => by
    cases d with
    | @k _ ks d => exact .inl ⟨ks, r⟩
    | @t _ ks d => exact .inr ⟨ks, r⟩
  cases ox with
  | d h =>
    cases h with
    | @dcK a ks kvs0 h hs => exact ⟨_, rfl, main (.k (dq_kvr hs)) (.inl (S.same _ _ h))⟩
    | @dcT a ks kvs0 h hs => exact ⟨_, rfl, main (.t (dq_kvt hs)) (.inl (S.same _ _ h))⟩
    | _ => cases e
  | l h => cases e
  | g h => cases e
  | @m _ _ p u d => exact ⟨p, rfl, main d (.inl (S.at_ _ (mx _ List.mem_cons_self)).1)⟩
  | @k _ _ p od u d h => exact ⟨p, rfl, main d (.inr ⟨_, S.same _ _ h⟩)⟩
theorem opd_some {d : Option D} {o : Option V} {v : D} (h : OpD K G d o) (e : d = some v) : ∃ w, o = some w ∧ Dq K G w v := by
  cases h with
  | none => cases e
  | some h =>
    cases e
    exact ⟨_, rfl, h⟩
theorem opd_isSome {d : Option D} {o : Option V} (h : OpD K G d o) : d.isSome = o.isSome := by cases h <;> rfl
theorem opd_getD {d : Option D} {o : Option V} {z : D} {w : V} (h : OpD K G d o) (hz : Dq K G w z) : Dq K G (o.getD w) (d.getD z) := by
  cases h with
  | none => exact hz
  | some h => exact h
/-! a dict that was walked is no longer known for ever -/
def IsDc : HO → Prop
  | .dK _ => True
  | .dT _ => True
  | _ => False
mutual
theorem dq_del {od : Obj} {u : HO} (hp : G p = some (.frz od u)) (hu : IsDc u) : ∀ {v : V} {d : D}, Dq K G v d → Dq K (del G p) v d
  | _, _, .non => .non
  | _, _, .bl b => .bl b
  | _, _, .int i => .int i
  | _, _, .str x => .str x
  | _, _, .lst h hs => .lst (by
      rcases h with (h | ⟨o, h⟩) | h
      · exact .inl (.inl (by rw [del_ne]; exact h; rintro rfl; rw [hp] at h; cases h))
      · exact .inl (.inr ⟨o, by rw [del_ne]; exact h; rintro rfl; rw [hp] at h; cases h; exact hu⟩)
      · exact .inr h) (dqs_del hp hu hs)
  | _, _, .tup h hs => .tup (by rw [del_ne]; exact h; rintro rfl; rw [hp] at h; cases h) (dqs_del hp hu hs)
  | _, _, .dcK h hs => .dcK (by rw [del_ne]; exact h; rintro rfl; rw [hp] at h; cases h) (dqk_del hp hu hs)
  | _, _, .dcT h hs => .dcT (by rw [del_ne]; exact h; rintro rfl; rw [hp] at h; cases h) (dqt_del hp hu hs)
  | _, _, .rf => .rf
  | _, _, .rng h => .rng (by rw [del_ne]; exact h; rintro rfl; rw [hp] at h; cases h)
theorem dqs_del {od : Obj} {u : HO} (hp : G p = some (.frz od u)) (hu : IsDc u) : ∀ {vs : List V} {ds : List D}, DqAll K G vs ds → DqAll K (del G p) vs ds
  | _, _, .nil => .nil
  | _, _, .cons h hs => .cons (dq_del hp hu h) (dqs_del hp hu hs)
theorem dqk_del {od : Obj} {u : HO} (hp : G p = some (.frz od u)) (hu : IsDc u) : ∀ {vs : List (Key × V)} {ds : List (D × D)}, DqK K G vs ds → DqK K (del G p) vs ds
  | _, _, .nil => .nil
  | _, _, .cons h hs => .cons (dq_del hp hu h) (dqk_del hp hu hs)
theorem dqt_del {od : Obj} {u : HO} (hp : G p = some (.frz od u)) (hu : IsDc u) : ∀ {vs : List (List Key × V)} {ds : List (D × D)}, DqT K G vs ds → DqT K (del G p) vs ds
  | _, _, .nil => .nil
  | _, _, .cons h hs => .cons (dq_del hp hu h) (dqt_del hp hu hs)
end
theorem dr_del {od : Obj} {u : HO} (hp : G p = some (.frz od u)) (hu : IsDc u) {t : Bool} {kvs : List (D × D)} {w : HO} (h : DR K G t kvs w) : DR K (del G p) t kvs w := by
  cases h with
  | k h => exact .k (Paired.mapP h fun _ _ z => ⟨z.1, dq_del hp hu z.2⟩)
  | t h => exact .t (Paired.mapP h fun _ _ z => ⟨z.1, dq_del hp hu z.2⟩)
theorem rows_del {od : Obj} {u : HO} (hp : G p = some (.frz od u)) (hu : IsDc u) {rows : List (List D)} {vs : List V} {c : List Cell} (h : RowsR K G rows vs c) : RowsR K (del G p) rows vs c := by
  induction h with
  | nil => exact .nil
  | cons d _ ih => exact .cons (dqs_del hp hu d) ih
theorem ot_del {od : Obj} {u : HO} (hp : G p = some (.frz od u)) (hu : IsDc u) {o : O} {v : V} {c : List Cell} (h : OT K G o v c) (hn : isWk o = false) : OT K (del G p) o v c := by
  cases h with
  | d h => exact .d (dq_del hp hu h)
  | l h => exact .l (dqs_del hp hu h)
  | m h => exact .m (dr_del hp hu h)
  | g h => exact .g (rows_del hp hu h)
  | k _ _ => cases hn
theorem rel_del {od : Obj} {u : HO} (hp : G p = some (.frz od u)) (hu : IsDc u) {env : Ev} {σ : St} (h : RelS K G env σ L) (hn : noK env = true) : RelS K (del G p) env σ L := by
  induction h with
  | nil => exact .nil
  | none _ ih => exact .none (ih hn)
  | @some o v c e σ L h hr ih =>
    cases o with
    | k t kvs => cases hn
    | _ => exact .some (ot_del hp hu h rfl) (ih hn)
theorem Sep.del {od : Obj} {u : HO} (S : Sep T G H L) (hp : G p = some (.frz od u)) : Sep T (del G p) (upd H p u) L := by
  have ne : ∀ c ∈ L, c.1 ≠ p := fun c hc e => by
    have := (S.at_ c hc).2
    rw [e, hp] at this
    cases this
  refine ⟨S.nd, fun c hc => ⟨by rw [upd_ne (ne c hc)]; exact (S.at_ c hc).1, by rw [del_ne (ne c hc)]; exact (S.at_ c hc).2⟩, fun b x e => ?_, fun P hP => ?_, S.uq, fun q hq => ?_, S.nt⟩
  · by_cases hb : b = p
    · subst hb
      rw [del_self] at e
      cases e
    · rw [del_ne hb] at e
      rw [upd_ne hb]
      exact S.same _ _ e
  · obtain ⟨a, b, c⟩ := S.tab P hP
    have hne : P.1 ≠ p := by
      rintro rfl
      rw [hp] at b
      cases b
    exact ⟨tab_upd hne (fun φ z => by
      rw [S.same _ _ hp] at z
      cases z) a, by rw [del_ne hne]; exact b, c⟩
  · obtain ⟨a, b⟩ := S.kn q hq
    refine ⟨?_, b⟩
    rw [del_ne]
    · exact a
    · intro z
      rw [z, hp] at a
      exact b _ _ (Option.some.inj a).symm
theorem dr_isDc {t : Bool} {kvs : List (D × D)} {u : HO} (h : DR K G t kvs u) : IsDc u ∧ Mut (some u) := by
  cases h with
  | k _ => exact ⟨trivial, trivial⟩
  | t _ => exact ⟨trivial, trivial⟩
end
section
variable {X : Cx} {T : TabsT} {lk : Nat → Bool} {a b c e : Expr} {pos : Pos} {st : Stmt}
/-- d[k] -/
theorem ev_dget {k : Nat} {fa fb : ExP} (hr : Room k X.A) (ha : OV X T a fa) (hb : OV X T b fb) (hs : NoSl b := by exact fun _ _ => rfl) : EV X T (.Subscript a b pos) (eOp2 gDItem fa fb) := by
  refine ev_of2 (r := fun x y H Q => ∃ a v, x = .ref a ∧ DGet H a y (some v) ∧ Q v H) ?_ ha hb fun pa pb => pe_dget (by have := hr.un; omega) pa pb hs
  intro G H L x y z vx vy cx cy ox oy mx my S ez Q hQ
  unfold gDItem at ez
  obtain ⟨⟨t, kvs⟩, e1, ez⟩ := bind_eq ez
  obtain ⟨kk, e2, ez⟩ := bind_eq ez
  split at ez
  · rename_i ok
    obtain ⟨v, e3, ez⟩ := bind_eq ez
    cases ez
    cases y with
    | d y =>
      cases e2
      cases oy with
      | d oy =>
        obtain ⟨a, o, rfl, h1, h2⟩ := dget_of ox mx S e1 ok oy
        obtain ⟨w, rfl, hw⟩ := opd_some h2 e3
        exact ⟨a, w, rfl, h1, hQ G w H [] (.refl _) (.d hw) S⟩
    | _ => cases e2
  · cases ez
theorem op_din (hu : X.A.units + 1 < cLine) : OpR X (compareOp .In) (fun x y H Q => ∃ a o, y = .ref a ∧ DGet H a x o ∧ Q (.bl o.isSome) H) := by
  intro pins s σ H x y v u Q I rx ry h
  obtain ⟨a, o, rfl, g, q⟩ := h
  obtain rfl : u = Value.ref a := ry
  exact d_in hu I g rx fun s3 I3 => ⟨.bl o.isSome, H, I3, rfl, q⟩
theorem op_dnotin (hu : X.A.units + 1 < cLine) : OpR X (compareOp .NotIn) (fun x y H Q => ∃ a o, y = .ref a ∧ DGet H a x o ∧ Q (.bl (!o.isSome)) H) := by
  intro pins s σ H x y v u Q I rx ry h
  obtain ⟨a, o, rfl, g, q⟩ := h
  obtain rfl : u = Value.ref a := ry
  exact d_notIn hu I g rx fun s3 I3 => ⟨.bl (!o.isSome), H, I3, rfl, q⟩
theorem c2_din {k : Nat} (hr : Room k X.A) : Cmp2 X T .In gDIn := by
  intro G H L x y k vx vy cx cy ox oy mx my S e
  unfold gDIn at e
  obtain ⟨⟨t, kvs⟩, e1, e⟩ := bind_eq e
  obtain ⟨kk, e2, e⟩ := bind_eq e
  split at e
  · rename_i ok
    cases e
    cases x with
    | d x =>
      cases e2
      cases ox with
      | d ox =>
        obtain ⟨a, o, rfl, h1, h2⟩ := dget_of oy my S e1 ok ox
        exact ⟨_, op_din (by have := hr.un; omega), fun Q q => ⟨a, o, rfl, h1, by rw [← opd_isSome h2]; exact q⟩⟩
    | _ => cases e2
  · cases e
theorem c2_dnotin {k : Nat} (hr : Room k X.A) : Cmp2 X T .NotIn gDNotIn := by
  intro G H L x y k vx vy cx cy ox oy mx my S e
  unfold gDNotIn gDIn at e
  obtain ⟨k', e1, e2⟩ := bind_eq e
  cases e2
  clear e
  have e := e1
  clear e1
  obtain ⟨⟨t, kvs⟩, e1, e⟩ := bind_eq e
  obtain ⟨kk, e2, e⟩ := bind_eq e
  split at e
  · rename_i ok
    cases e
    cases x with
    | d x =>
      cases e2
      cases ox with
      | d ox =>
        obtain ⟨a, o, rfl, h1, h2⟩ := dget_of oy my S e1 ok ox
        exact ⟨_, op_dnotin (by have := hr.un; omega), fun Q q => ⟨a, o, rfl, h1, by rw [← opd_isSome h2]; exact q⟩⟩
    | _ => cases e2
  · cases e
/-- d.get(k, x) -/
theorem ev_get2 {k : Nat} {x : Str} {p1 p2 : Pos} {fk fx : Ex} (j : Nat) (hr : Room k X.A) (hk : EV X T a fk) (hx : EV X T b fx) (hN : X.N[j]? = some x := by rfl) (hvis : Vis X.env.scope x := by first | exact Or.inl rfl | exact Or.inr (Or.inl rfl) | exact Or.inr (Or.inr rfl)) (hd : (x == ("__debug__" : Str)) = false := by decide)
    (hcd : (x == ("__classdict__" : Str)) = false := by decide) (hm : M2 X (.Name x p1) "get" p2 a b pos := by exact ⟨rfl, rfl, rfl, rfl⟩) : EV X T (.Call (.Attribute (.Name x p1) "get" p2) [a, b] [] pos) (eGet2 j fk fx) := by
  obtain ⟨ta, pa, h1⟩ := hk
  obtain ⟨tb, pb, h2⟩ := hx
  refine ⟨_, pe_dget2 (by have := hr.un; omega) (pe_var hN hvis hd hcd) pa pb hm, fun env o env' hf G σ H L Lx hR hS Q hQ => ?_⟩
  unfold eGet2 at hf
  obtain ⟨o0, e0, hf⟩ := bind_eq hf
  obtain ⟨z0, e00, hf⟩ := bind_eq hf
  obtain ⟨⟨o1, env1⟩, e1, hf⟩ := bind_eq hf
  obtain ⟨⟨o2, env2⟩, e2, hf⟩ := bind_eq hf
  obtain ⟨o3, e3, hf⟩ := bind_eq hf
  obtain ⟨⟨t, kvs⟩, e4, hf⟩ := bind_eq hf
  obtain ⟨kk, e5, hf⟩ := bind_eq hf
  obtain ⟨zz, e6, hf⟩ := bind_eq hf
  split at hf
  · rename_i ok
    cases hf
    obtain ⟨v0, c0, g1, g2, g3⟩ := rel_get hR e0
    obtain ⟨a0, rfl, hD0⟩ := isd_of g2 (fun z hz => List.mem_append_left Lx (g3 z hz)) hS e00
    refine ⟨.ref a0, g1, a0, rfl, hD0, ?_⟩
    refine h1 env o1 env1 e1 G σ H L Lx hR hS _ fun G1 v1 H1 L1 Lo1 s1 ot1 R1 S1 => ?_
    refine h2 env1 o2 env2 e2 G1 σ H1 L1 (Lo1 ++ Lx) R1 S1.comm3 _ fun G2 v2 H2 L2 Lo2 s2 ot2 R2 S2 => ?_
    cases o1 with
    | d x1 =>
      cases e5
      cases o2 with
      | d x2 =>
        cases e6
        cases ot1 with
        | d ot1 =>
          cases ot2 with
          | d ot2 =>
            have S3 : Sep T G2 H2 (L2 ++ Lx) := S2
            obtain ⟨v3, c3, f1, f2, f3⟩ := rel_get R2 e3
            rw [g1] at f1
            cases f1
            obtain ⟨a, oo, ea, h1, h2⟩ := dget_of f2 (fun z hz => List.mem_append_left Lx (f3 z hz)) S3 e4 ok (dp_mono s2 _ _ ot1)
            cases ea
            exact ⟨oo, h1, hQ G2 _ H2 L2 [] (s1.trans s2) (.d (opd_getD h2 ot2)) R2 S3⟩
      | _ => cases e6
    | _ => cases e5
  · cases hf
/-- d[k] = v -/
theorem sv_dput {k : Nat} {x : Str} {i v : Expr} {p1 p2 : Pos} {fi fv : Ex} (j : Nat) (hr : Room k X.A) (hv : EV X T v fv) (hi : EV X T i fi) (hN : X.N[j]? = some x := by rfl) (hvis : Vis X.env.scope x := by first | exact Or.inl rfl | exact Or.inr (Or.inl rfl) | exact Or.inr (Or.inr rfl)) (hd : (x == ("__debug__" : Str)) = false := by decide)
    (hcd : (x == ("__classdict__" : Str)) = false := by decide) (hs : swapsWith v (some (.Subscript (.Name x p1) i p2)) pos.line X.env = pure false := by rfl) :
    SV X T lk (.Assign [.Subscript (.Name x p1) i p2] v pos) (sDPut' j fi fv) := by
  obtain ⟨tv, pv', h1⟩ := hv
  obtain ⟨ti, pi, h2⟩ := hi
  refine ⟨_, ps_dput (by have := hr.un; omega) (pe_var hN hvis hd hcd) pi pv' hs, fun env r hf G σ H L Lx hR hS D hD => ?_⟩
  unfold sDPut' at hf
  obtain ⟨⟨o1, env1⟩, e1, hf⟩ := bind_eq hf
  obtain ⟨o0, e0, hf⟩ := bind_eq hf
  obtain ⟨⟨o2, env2⟩, e2, hf⟩ := bind_eq hf
  obtain ⟨o3, e3, hf⟩ := bind_eq hf
  cases o3 with
  | m t kvs =>
    obtain ⟨kk, e5, hf⟩ := bind_eq hf
    obtain ⟨y, e6, hf⟩ := bind_eq hf
    split at hf
    · rename_i ok
      cases hf
      refine h1 env o1 env1 e1 G σ H L Lx hR hS _ fun G1 v1 H1 L1 Lo1 s1 ot1 R1 S1 => ?_
      obtain ⟨v0, c0, g1, g2, g3⟩ := rel_get R1 e0
      refine ⟨v0, g1, ?_⟩
      refine h2 env1 o2 env2 e2 G1 σ H1 L1 (Lo1 ++ Lx) R1 S1.comm3 _ fun G2 v2 H2 L2 Lo2 s2 ot2 R2 S2 => ?_
      cases o2 with
      | d x2 =>
        cases e5
        cases ot2 with
        | d ot2 =>
          have S2' : Sep T G2 H2 (Lo1 ++ (L2 ++ Lx)) := Sep.comm3 S2
          obtain ⟨G3, m3, d3, S3⟩ := frz_of (ot_mono s2 ot1) e6 S2'
          obtain ⟨v3, c3, L3, f1, f2, f3, f4⟩ := rel_take R2 e3
          rw [g1] at f1
          cases f1
          cases f2 with
          | @m _ _ p u dr =>
            have S4 : Sep T G3 H2 ((p, u) :: (L3 ++ Lx)) := S3.sub (.perm (by simpa using f3.append_right Lx))
            have hat := (S4.at_ _ List.mem_cons_self).1
            have fin : ∀ u', DR X.K G3 t (dPut kvs kk y) u' → D.nx σ (upd H2 p u') := fun u' dr' => by
              have S5 := S4.change (o' := u') (by
                cases dr' <;> exact okO_by (by intro _ z; cases z) (by intro _ z; cases z) (by intro _ z; cases z))
              obtain ⟨L', q1, q2⟩ := rel_put_at (rel_mono m3 f4) slot_set_same g1 (.m dr')
              rw [List.set_set] at q1
              exact hD G3 σ _ L' ((s1.trans s2).trans m3) (fun _ _ => rfl) q1 (S5.sub (.perm (by simpa using (q2.append_right Lx).symm)))
            have ot2' := dp_mono m3 _ _ ot2
            cases dr with
            | @k _ ks dr =>
              obtain ⟨key, rfl⟩ := keyOk_k ok.1
              have hl : ks.length < sizeLine := by
                have : kvs.length = ks.length := Paired.length dr
                have h9 := ok.2
                rw [← this]
                exact Nat.lt_trans h9 line_ge
              exact ⟨p, _, rfl, .inl ⟨ks, key, hat, dq_key ot2', hl, rfl⟩, fin _ (.k (put_k (kvr_mono m3 dr) d3))⟩
            | @t _ ks dr =>
              cases ot2' with
              | tup h1 h2 =>
                obtain ⟨keys, rfl⟩ := keyOk_ks ok.1
                have := dq_keys h2
                subst this
                have hl : ks.length < sizeLine := by
                  have : kvs.length = ks.length := Paired.length dr
                  have h9 := ok.2
                  rw [← this]
                  exact Nat.lt_trans h9 line_ge
                exact ⟨p, _, rfl, .inr ⟨ks, keys, _, hat, rfl, S3.same _ _ h1, hl, rfl⟩, fin _ (.t (put_t (kvt_mono m3 dr) d3))⟩
              | _ => cases ok.1
      | _ => cases e5
    · cases hf
  | _ => cases hf
/-- the statement while the slot's dict is locked -/
theorem sv_lock {f : Sx} (j : Nat) (h : SV X T lk st f) : SV X T lk st (sLock j f) := by
  obtain ⟨t, p, h⟩ := h
  refine ⟨_, ps_lock p, fun env r hf G σ H L Lx hR hS D hD => ?_⟩
  unfold sLock at hf
  split at hf
  · rename_i tt kvs es
    obtain ⟨o, e1, hf⟩ := bind_eq hf
    obtain ⟨v, c, Lr, f1, f2, f3, f4⟩ := rel_take hR es
    cases f2 with
    | @m _ _ p u dr =>
      have S1 : Sep T G H ((p, u) :: (Lr ++ Lx)) := hS.sub (.perm (by simpa using f3.append_right Lx))
      obtain ⟨hp, gp⟩ := S1.at_ _ List.mem_cons_self
      obtain ⟨idc, mu⟩ := dr_isDc dr
      refine ⟨p, u, hp, mu, fun od => ?_⟩
      obtain ⟨S2, m2⟩ := (S1.change (o' := .frz od u)).freeze
      obtain ⟨L', q1, q2⟩ := rel_put_at (rel_mono m2 f4) slot_set_same f1 (.k (dr_mono m2 dr) upd_same)
      rw [List.set_set] at q1
      refine h _ o e1 _ σ _ L' Lx q1 (S2.sub (.perm (by simpa using (q2.append_right Lx).symm))) _ ?_
      have back : ∀ {G' : Hp}, Same (upd G p (.frz od u)) G' → G' p = some (.frz od u) ∧ Same G (del G' p) := fun {G'} s => by
        refine ⟨s _ _ upd_same, fun b x e => ?_⟩
        have hb : b ≠ p := by
          rintro rfl
          rw [gp] at e
          cases e
        rw [del_ne hb]
        exact s _ _ (m2 _ _ e)
      cases o with
      | nx e1 =>
        simp only at hf
        split at hf
        · rename_i hn
          cases hf
          intro G' σ' H' L2 s k R S
          obtain ⟨b1, b2⟩ := back s
          obtain ⟨L3, r1, r2⟩ := rel_forget R j
          exact ⟨S.same _ _ b1, hD _ σ' _ L3 b2 k (rel_del b1 idc r1 hn) ((S.sub r2.right).del b1)⟩
        · cases hf
      | bk e1 => cases hf
      | ex x1 e1 => cases hf
      | rt r1 e1 =>
        simp only at hf
        split at hf
        · rename_i hn
          cases hf
          intro G' v' σ' H' L2 Lo s k ot R S
          obtain ⟨b1, b2⟩ := back s
          obtain ⟨L3, w1, w2⟩ := rel_forget R j
          exact ⟨S.same _ _ b1, hD _ v' σ' _ L3 Lo b2 k (ot_del b1 idc ot hn.2) (rel_del b1 idc w1 hn.1) ((S.sub (w2.right.left)).del b1)⟩
        · cases hf
  · cases hf
/-- a locked dict's keys are walked -/
theorem iv_dict {tg : Expr} {x : Str} (j : Nat) (hN : X.N[j]? = some x := by rfl) (hvis : Vis X.env.scope x := by first | exact Or.inl rfl | exact Or.inr (Or.inl rfl) | exact Or.inr (Or.inr rfl)) (hd : (x == ("__debug__" : Str)) = false := by decide)
    (hcd : (x == ("__classdict__" : Str)) = false := by decide) : IV X T tg (.Name x pos) (iDict j) := by
  refine ⟨_, pi_keys (pe_var hN hvis hd hcd), fun env ds env' hf G σ H L Lx hR hS R hR' => ?_⟩
  unfold iDict at hf
  split at hf
  · rename_i kvs es
    cases hf
    obtain ⟨v, c, h1, h2, h3⟩ := rel_get hR es
    cases h2 with
    | @k _ _ p od u dr hp =>
      cases dr with
      | @k _ ks dr =>
        refine ⟨.ref p, h1, p, od, rfl, .inl ⟨ks, hS.same _ _ hp, hR' G H L _ (.refl _) hR hS ?_⟩⟩
        intro i G2 H2 L2 m S
        have hH : H2 p = some (.frz od (.dK ks)) := S.same _ _ (m _ _ hp)
        have hlen : kvs.length = ks.length := Paired.length dr
        refine ⟨fun d hd => ?_, fun hl => ⟨hH, by rw [List.length_map] at hl; omega⟩⟩
        rw [List.getElem?_map] at hd
        obtain ⟨q, hq, rfl⟩ := Option.map_eq_some_iff.mp hd
        obtain ⟨b, hb, hb2⟩ := paired_get dr hq
        refine ⟨⟨hH, (List.getElem?_eq_some_iff.mp hb).1⟩, fun y H' hy => ?_⟩
        obtain ⟨rfl, kk, vv, hk, rfl⟩ := hy
        rw [hb] at hk
        cases hk
        exact ⟨G2, .refl _, by rw [hb2.1]; exact key_dq _, S⟩
  · cases hf
/-- x = y -/
theorem sv_move {x y : Str} {p p2 : Pos} (i j : Nat) (hN : X.N.Nodup) (hi : X.N[i]? = some x := by rfl) (hj : X.N[j]? = some y := by rfl) (hl : lk i = false := by rfl) (hx : Loc X.env.scope x := by first | exact Or.inl rfl | exact Or.inr rfl)
    (hvis : Vis X.env.scope y := by first | exact Or.inl rfl | exact Or.inr (Or.inl rfl) | exact Or.inr (Or.inr rfl)) (hd : (y == ("__debug__" : Str)) = false := by decide) (hcd : (y == ("__classdict__" : Str)) = false := by decide)
    (hs : swapsWith (.Name y p2) (some (.Name x p)) pos.line X.env = pure false := by rfl) (hf : X.fn x = true ∨ X.env.scope.names.lookup x = some .local := by first | exact .inl rfl | exact .inr rfl) : SV X T lk (.Assign [.Name x p] (.Name y p2) pos) (sMove i j) := by
  refine ⟨_, ps_set hN hi hx (pe_var hj hvis hd hcd) hs hf, fun env r hf G σ H L Lx hR hS D hD => ?_⟩
  unfold sMove at hf
  obtain ⟨o, e1, hf⟩ := bind_eq hf
  cases hf
  obtain ⟨v, c, Lr, f1, f2, f3, f4⟩ := rel_take hR e1
  refine ⟨v, f1, ?_⟩
  obtain ⟨L', q1, q2⟩ := rel_put (j := i) f4 f2
  exact hD G (σ.set i (some v)) H L' (.refl _) (lk_set hl) q1 (hS.sub (Sub.right (Sub.trans (.perm f3) q2)))
/-- {k: v} -/
theorem ev_dict1 {fk fv : Ex} (hk : EV X T a fk) (hv : EV X T b fv) : EV X T (.Dict [some a] [b] pos) (eDict1 fk fv) := by
  obtain ⟨ta, pa, h1⟩ := hk
  obtain ⟨tb, pb, h2⟩ := hv
  refine ⟨_, pe_disp (pps_cons pa pb pps_nil) rfl rfl (by simp) (by simp), fun env o env' hf G σ H L Lx hR hS Q hQ => ?_⟩
  unfold eDict1 at hf
  obtain ⟨⟨o1, env1⟩, e1, hf⟩ := bind_eq hf
  obtain ⟨⟨o2, env2⟩, e2, hf⟩ := bind_eq hf
  obtain ⟨kk, e3, hf⟩ := bind_eq hf
  obtain ⟨vv, e4, hf⟩ := bind_eq hf
  split at hf
  · rename_i ok
    cases hf
    intro p hp
    have S0 : Sep T G (upd H p (.dK [])) (L ++ ((p, .dK []) :: Lx)) := (hS.owned hp).sub (.perm List.perm_middle.symm)
    refine h1 env o1 env1 e1 G σ _ L _ hR S0 _ fun G1 v1 H1 L1 Lo1 s1 ot1 R1 S1 => ?_
    refine h2 env1 o2 env2 e2 G1 σ H1 L1 (Lo1 ++ ((p, .dK []) :: Lx)) R1 S1.comm3 _ fun G2 v2 H2 L2 Lo2 s2 ot2 R2 S2 => ?_
    cases o1 with
    | d x1 =>
      cases e3
      cases o2 with
      | d x2 =>
        cases e4
        cases ot1 with
        | d ot1 =>
          cases ot2 with
          | d ot2 =>
            have S3 : Sep T G2 H2 ((p, .dK []) :: (L2 ++ Lx)) := S2.sub (.perm (by simpa using List.perm_middle))
            obtain ⟨key, rfl⟩ := keyOk_k ok
            have := dq_key ot1
            subst this
            refine ⟨(S3.at_ _ List.mem_cons_self).1, [(key, v2)], rfl, by simp, ?_⟩
            exact hQ G2 (.ref p) _ L2 [(p, .dK (mergeK [] [(key, v2)]))] (s1.trans s2) (.m (.k (.cons ⟨rfl, ot2⟩ .nil))) R2 S3.change
      | _ => cases e4
    | _ => cases e3
  · cases hf
end
end Sh

/-! Shift layer: a dict display of one pair whose key is a tuple. -/
namespace Sh
open PySem PySem.Spec PyProof.Rows L2
theorem put_T {X : Cx} {pins : List (Addr × Obj)} {σ : St} {H : Hp} {s : Shared} {E : Value → Shared → Prop} {D b : Addr} {kvs : List (List Key × V)} {k : List Key} {v : V} {r : Value} {Q : Unit → Shared → Prop} (hu : X.A.units + 1 < cLine) (I : Inv X pins σ H s) (hD : H D = some (.dT kvs)) (eb : H b = some (.tup (k.map kV)))
    (hz : kvs.length < sizeLine) (rv : RelV v r) (h : ∀ s', Inv X pins σ (upd H D (.dT (putK kvs k v))) s' → Q () s') : wpAny (model X.prog X.w) X.A (dictSet D (.ref b) r) Q E s := by
  obtain ⟨z, hd, xs, rel, dd⟩ := dt_of I.hok hD
  have hl : (putK kvs k v).length ≤ sizeLine := by have := length_putK kvs k v; omega
  have hz2 : xs.length ≤ sizeLine := by rw [← Paired.length rel]; exact z
  have hroom : (tupleKind (mixKind X.prog X.w)).room X.A := by
    show X.A.units < cLine
    omega
  refine wpAny_dictSet_heap (hsz := hz2) hroom (key_of I.hok eb) dd fun h' dd' hs => h _ ?_
  obtain ⟨q, es, ep, hq, q2, q3, q4, _, q5⟩ := dd'
  have mu : Mut (H D) := by rw [hD]; exact True.intro
  refine d_write I mu hs ⟨q, hq⟩ ⟨hl, hd, _, (rel.put k eb rv).keeps fun c ys ec => ?_, q, es, ep, hq, q2, q3, q4, q5⟩
  rw [upd_ne (ne_of ec hD (fun z => nomatch z))]
  exact ec
def tDispT (tk tv : TE) : TE := fun σ H Q => ∀ p, H p = none → tk σ (upd H p (.dT [])) fun x H1 => tv σ H1 fun y H2 => ∃ b k, x = .ref b ∧ H2 b = some (.tup (k.map kV)) ∧ H2 p = some (.dT []) ∧ Q (.ref p) (upd H2 p (.dT [(k, y)]))
theorem pe_dispT {X : Cx} {pos : Pos} {a b : Expr} {ta tb : TE} (hu : X.A.units + 1 < cLine) (ha : PE X a ta) (hb : PE X b tb) : PE X (.Dict [some a] [b] pos) (tDispT ta tb) := by
  refine ⟨fun pins s σ H Q I q => ?_⟩
  have I1 := I.laid (a := s.heap.objs.size) (o := .dT []) (h' := s.heap.push { cls := .type "dict", data := .dict #[] }) (t' := s.toks) (fun _ _ q => Heap.get?_push_of_some _ q) (Nat.le_refl _) (dt_empty s.heap I.big)
  refine wpAny_Dict_any rfl rfl (by simp) (by simp) (pairTrees_cons_walk ?_)
  refine thn (ha.run pins _ σ _ _ I1 (q _ (I.hok.fresh (Nat.le_refl _)))) fun u s1 ⟨x, H1, I2, rx, q1⟩ => ?_
  refine thn (hb.run pins s1 σ H1 _ I2 q1) fun w2 s2 ⟨y, H2, I3, ry, bb, k, ex, eb, ep, q2⟩ => ?_
  subst ex
  obtain rfl : u = Value.ref bb := rx
  refine pairTrees_nil_walk ?_
  unfold storeAll
  rw [List.forIn_cons]
  refine wpAny_bind (wpAny_bind (put_T hu I3 ep eb (by decide) ry fun s3 I4 => wpAny_pure ?_))
  dsimp only
  rw [List.forIn_nil]
  exact wpAny_pure ⟨V.ref s.heap.objs.size, _, I4, rfl, q2⟩
/-- {k: v}, k a tuple -/
@[simp] def eDict1T (fk fv : Ex) : Ex := fun e => (fk e).bind fun p => (fv p.2).bind fun q => (oD p.1).bind fun k => (oD q.1).bind fun v => if keyOk true k = true then some (.m true [(k, v)], q.2) else none
theorem ev_dict1T {X : Cx} {T : TabsT} {a b : Expr} {pos : Pos} {fk fv : Ex} {n : Nat} (hr : Room n X.A) (hk : EV X T a fk) (hv : EV X T b fv) : EV X T (.Dict [some a] [b] pos) (eDict1T fk fv) := by
  obtain ⟨ta, pa, h1⟩ := hk
  obtain ⟨tb, pb, h2⟩ := hv
  refine ⟨_, pe_dispT (by have := hr.un; omega) pa pb, fun env o env' hf G σ H L Lx hR hS Q hQ => ?_⟩
  unfold eDict1T at hf
  obtain ⟨⟨o1, env1⟩, e1, hf⟩ := bind_eq hf
  obtain ⟨⟨o2, env2⟩, e2, hf⟩ := bind_eq hf
  obtain ⟨kk, e3, hf⟩ := bind_eq hf
  obtain ⟨vv, e4, hf⟩ := bind_eq hf
  split at hf
  · rename_i ok
    cases hf
    intro p hp
    have S0 : Sep T G (upd H p (.dT [])) (L ++ ((p, .dT []) :: Lx)) := (hS.owned hp).sub (.perm List.perm_middle.symm)
    refine h1 env o1 env1 e1 G σ _ L _ hR S0 _ fun G1 v1 H1 L1 Lo1 s1 ot1 R1 S1 => ?_
    refine h2 env1 o2 env2 e2 G1 σ H1 L1 (Lo1 ++ ((p, .dT []) :: Lx)) R1 S1.comm3 _ fun G2 v2 H2 L2 Lo2 s2 ot2 R2 S2 => ?_
    cases o1 with
    | d x1 =>
      cases e3
      cases o2 with
      | d x2 =>
        cases e4
        cases ot1 with
        | d ot1 =>
          cases ot2 with
          | d ot2 =>
            have S3 : Sep T G2 H2 ((p, .dT []) :: (L2 ++ Lx)) := S2.sub (.perm (by simpa using List.perm_middle))
            cases dp_mono s2 _ _ ot1 with
            | @tup a xs ks t1 t2 =>
              obtain ⟨keys, rfl⟩ := keyOk_ks ok
              have := dq_keys t2
              subst this
              refine ⟨a, keys, rfl, S3.same _ _ t1, (S3.at_ _ List.mem_cons_self).1, ?_⟩
              exact hQ G2 (.ref p) _ L2 [(p, .dT [(keys, v2)])] (s1.trans s2) (.m (.t (.cons ⟨rfl, ot2⟩ .nil))) R2 S3.change
            | _ => cases ok
      | _ => cases e4
    | _ => cases e3
  · cases hf
end Sh

/-! Shift layer: min of alike data; min(xs, key=f), f a def of the layer that makes tuples of ints out of ints. -/
namespace Sh
open PySem PySem.Spec PyProof.Rows L2
/-- the ints of f's answers -/
def keyNs (F : Fn) (i : Int) : Option (List Int) := match F [.d (.int i)] with
  | some (.d (.tuple zs), _) => intsOf zs
  | _ => none
def keysNs (F : Fn) : List Int → Option (List (List Int))
  | [] => some []
  | i :: r => (keyNs F i).bind fun k => (keysNs F r).bind fun ks => some (k :: ks)
def tupI (ns : List Int) : D := .tuple (ns.map .int)
def gMinK (F : Fn) (x : O) : Option O := (oLst x).bind fun xs => (intsOf xs).bind fun is => (keysNs F is).bind fun ks =>
  if is = [] then none else some (.d (.int (is.getD (argBest (fun i j => PySem.W.dataLt (tupI (ks.getD i [])) (tupI (ks.getD j []))) (is.length - 1)) 0)))
/-- min of alike data -/
def notN : D → Bool
  | .none => false
  | _ => true
def gMinD (x : O) : Option O := (oSeq x).bind fun xs => match xs with
  | [] => none
  | y :: ys => if allAlikeB (y :: ys) = true ∧ ((y :: ys).all fun d => notN d && decide (d.depth ≤ 64)) = true ∧ noDs (y :: ys) = true then some (.d (PySem.W.minD y ys)) else none

/-- all is kept, frames up to their slots -/
structure Kp (fs : List Addr) (h h' : Heap) : Prop where
  keep : ∀ b o, h.get? b = some o → b ∉ fs → h'.get? b = some o
  slot : ∀ b o, h.get? b = some o → ∃ sl, h'.get? b = some { o with slots := sl }
theorem Kp.refl {fs : List Addr} {h : Heap} : Kp fs h h := ⟨fun _ _ e _ => e, fun _ o e => ⟨o.slots, e⟩⟩
theorem Kp.trans {fs : List Addr} {h h1 h2 : Heap} (a : Kp fs h h1) (b : Kp fs h1 h2) : Kp fs h h2 :=
  ⟨fun c o e n => b.keep c o (a.keep c o e n) n, fun c o e => by
    obtain ⟨sl, e1⟩ := a.slot c o e
    obtain ⟨sl2, e2⟩ := b.slot c _ e1
    exact ⟨sl2, e2⟩⟩
theorem alike_tupI (a b : List Int) : PySem.W.alike (tupI a) (tupI b) = true := by
  unfold tupI
  rw [PySem.W.alike]
  induction a generalizing b with
  | nil => cases b <;> simp [PySem.W.alikeAll]
  | cons x xs ih =>
    cases b with
    | nil => simp [PySem.W.alikeAll]
    | cons y ys =>
      rw [List.map_cons, List.map_cons, PySem.W.alikeAll, ih]
      simp [PySem.W.alike]
theorem depth_tupI (a : List Int) : (tupI a).depth ≤ 1 := by
  unfold tupI
  rw [PyData.depth]
  have : PyData.depthAll (a.map .int) = 0 := by
    induction a with
    | nil => simp [PyData.depthAll]
    | cons x xs ih => rw [List.map_cons, PyData.depthAll, ih]; simp [PyData.depth]
  omega
/-- a tuple of these ints -/
def RdT (h : Heap) (v : Value) (ns : List Int) (ne : List Addr) : Prop := ∃ (a : Addr) (o : Obj) (vs : Array Value) (n : Nat), v = .ref a ∧ h.get? a = some o ∧ o.cls = .type "tuple" ∧ o.data = .seq vs n ∧ (∀ h' : Heap, ReadsAll h' vs.toList (ns.map .int) []) ∧ a ∉ ne
theorem RdT.reads {h : Heap} {v : Value} {ns : List Int} {ne : List Addr} (r : RdT h v ns ne) : Reads h v (tupI ns) [] := by
  obtain ⟨a, o, vs, n, rfl, h1, h2, h3, h4, _⟩ := r
  exact .tuple h1 h2 h3 (h4 h)
theorem RdT.stay {h h' : Heap} {v : Value} {ns : List Int} {ne : List Addr} (r : RdT h v ns ne) (k : ∀ a o, a ∉ ne → h.get? a = some o → ∃ sl, h'.get? a = some { o with slots := sl }) : RdT h' v ns ne := by
  obtain ⟨a, o, vs, n, rfl, h1, h2, h3, h4, h5⟩ := r
  obtain ⟨sl, e⟩ := k a o h5 h1
  exact ⟨a, _, vs, n, rfl, e, h2, h3, h4, h5⟩
theorem readsAll_ints : ∀ {xs : List V} {us : List Value} {ns : List Int}, Vals xs us → xs = ns.map V.int → ∀ h' : Heap, ReadsAll h' us (ns.map .int) []
  | [], [], [], .nil, _, _ => .nil
  | [], [], _ :: _, .nil, e, _ => by cases e
  | x :: xs, u :: us, [], .cons _ _, e, _ => by cases e
  | x :: xs, u :: us, n :: ns, .cons r rs, e, h' => by
    rw [List.map_cons] at e
    injection e with e1 e2
    subst e1
    obtain ⟨t, rfl⟩ := r
    have q := readsAll_ints rs e2 h'
    have := ReadsAll.cons (Reads.int (h := h') n t) q
    simpa using this
section
variable {X : Cx} {T : TabsT} {pins : List (Addr × Obj)} {σ : St} {H : Hp} {s : Shared} {E : Value → Shared → Prop}
theorem call_pure {k : Nat} {f : Addr} {fd : FuncData} {p : Str} {F : Fn} {A : Around} {i : Int} {t : Tok} {ns : List Int} {Q : Value → Shared → Prop} (hF : FnOk X.prog X.w X.K X.mg X.base CX0 k f fd [p] (spD X.K ([], []) F)) (hb : Binds X.K fd [p] [])
    (I : Inv X pins σ H s) (hA : A.frames = X.A.frames) (hr : Room k A) (hf : keyNs F i = some ns)
    (hq : ∀ v s', s'.os = s.os → AllBare s'.gens → Kp (frs X.stack) s.heap s'.heap → (∀ ne : List Addr, (∀ b ∈ ne, ∃ o, s.heap.get? b = some o) → RdT s'.heap v ns ne) → Q v s') : wpAny (model X.prog X.w) A (call (.ref f) [.int i t]) Q E s := by
  unfold keyNs at hf
  split at hf
  · rename_i zs fs hF2
    have e0 : Env0 X.prog X.w X.K X.mg X.base A X.stack s (fun _ => none) := ⟨hA.trans I.ok.frames, I.ok.mod, fun b o e => ⟨(I.bs b o e).1, rfl⟩, Nat.le_trans I.ok.bsz I.sz, I.stack, fun _ _ => rfl, (fun b o e => by cases e), I.bare⟩
    have rv : RelV (.int i) (.int i t) := ⟨t, rfl⟩
    refine wpAny_call (codeAny_mono (hF.run A X.stack s (fun _ => none) ⟨[.int i t], []⟩ [.int i t] [.int i] (fun v H' => Dq X.K H' v (.tuple zs)) (fun _ _ _ => False) hr e0 (by simpa using hb s [.int i t] I.kIn rfl) (.cons rv .nil) ?_) fun r s' hc => ?_)
    · refine ⟨fun _ => none, [.d (.int i)], [], [], .d (.tuple zs), fs, .some (.d (.int i)) .nil, ⟨by simp, by simp, .refl _, by simp, by simp, by simp, by simp⟩, hF2, fun G' v H' cr cf S' ot _ S => ?_⟩
      cases ot with
      | d ot => exact dp_mono S.same _ _ ot
    · cases r with
      | error e => exact (show False from hc).elim
      | ok fl =>
        cases fl with
        | ret u =>
          obtain ⟨v, H', os, bare, un, hok, r, q⟩ := hc
          refine hq u s' os bare ⟨fun b o e n => un.keep b o e rfl n (by simp), fun b o e => un.any e rfl (by simp)⟩ fun ne hne => ?_
          cases q with
          | @tup a xs _ ha hs =>
            have hx := ints_dps hf hs
            subst hx
            obtain ⟨_, its, vals, o, ho, hc, n, hd⟩ := hok a _ ha
            obtain rfl : u = .ref a := r
            refine ⟨a, o, its.toArray, n, rfl, ho, hc, hd, fun h' => by simpa using readsAll_ints vals rfl h', fun hm => ?_⟩
            obtain ⟨ob, hob⟩ := hne a hm
            have := un.free a ob hob rfl (by simp)
            rw [ha] at this
            cases this
        | next => exact (show False from hc).elim
        | brk => exact (show False from hc).elim
        | cont => exact (show False from hc).elim
  · cases hf
theorem inv_kp {s' : Shared} (I : Inv X pins σ H s) (k : Kp (frs X.stack) s.heap s'.heap) (ho : s'.os = s.os) (hg : AllBare s'.gens) : Inv X pins σ H s' := by
  refine I.call' (ch := []) ho ⟨fun b o e _ n _ => k.keep b o e n, fun b o e _ _ _ => k.slot b o e, fun _ _ _ n _ => n, fun b o e _ => ?_, fun _ _ e => e, fun _ _ _ e => e, fun b ps e => ⟨#[], by rw [e]; simp⟩⟩ ?_ hg (fun _ z => nomatch z)
  · obtain ⟨sl, e1⟩ := k.slot b o e
    exact ⟨_, e1⟩
  · exact fun b o q => (I.hok b o q).stay (fun c u hc r => k.keep c u r fun hm => by
      have z := I.stkFree c hm
      rcases hc with hc | hc
      · rw [hc, q] at z; cases z
      · rw [hc] at z; cases z) (fun _ r => r) fun _ _ r => r
theorem keysNs_get {F : Fn} : ∀ {is : List Int} {ks : List (List Int)}, keysNs F is = some ks → ks.length = is.length ∧ ∀ j i, is[j]? = some i → keyNs F i = some (ks.getD j [])
  | [], ks, h => by
    cases h
    exact ⟨rfl, fun j i e => by simp at e⟩
  | i :: r, ks, h => by
    unfold keysNs at h
    obtain ⟨k, e1, h⟩ := bind_eq h
    obtain ⟨ks', e2, h⟩ := bind_eq h
    cases h
    obtain ⟨h1, h2⟩ := keysNs_get e2
    refine ⟨by rw [List.length_cons, List.length_cons, h1], fun j i' e => ?_⟩
    cases j with
    | zero =>
      have : i = i' := by simpa using e
      subst this
      exact e1
    | succ j => exact h2 j i' (by simpa using e)
theorem min_key {k : Nat} {f l : Addr} {fd : FuncData} {p : Str} {F : Fn} {is : List Int} {ks : List (List Int)} {its : List Value} {Q : VK} (hF : FnOk X.prog X.w X.K X.mg X.base CX0 k f fd [p] (spD X.K ([], []) F)) (hb : Binds X.K fd [p] []) (hr : Room (k + 1) X.A)
    (I : Inv X pins σ H s) (hl : s.heap.IsList l its.toArray) (hv : Vals (is.map V.int) its) (hk : keysNs F is = some ks) (hne : is ≠ []) (hlf : l ∉ frs X.stack)
    (hq : ∀ H', H' = H → Q (.int (is.getD (argBest (fun i j => PySem.W.dataLt (tupI (ks.getD i [])) (tupI (ks.getD j []))) (is.length - 1)) 0)) H') :
    wpAny (model X.prog X.w) X.A (call (.builtin "min") [.ref l] [(Str.ofString "key", .ref f)]) (EP X pins σ Q) X.xe s := by
  have hh : X.A.in1.handled = none := hr.hd
  obtain ⟨kl, kg⟩ := keysNs_get hk
  have hlen : its.length = is.length := by have := hv.length; simpa using this.symm
  have hpos : 0 < is.length := List.length_pos_iff.mpr hne
  refine call_min_walkK (PySem.W.iter_listW (A := X.A.in1) hh hl fun s2 e2 W st hfp hw hkp => ?_)
  have sz2 : s2.heap.objs.size = s.heap.objs.size + 1 := by rw [e2]; exact Heap.size_push ..
  have frlt : ∀ b ∈ frs X.stack, b < s.heap.objs.size := fun b hb => by
    obtain ⟨_, o, ho, _⟩ := I.stack.mem hb
    exact Heap.lt_size ho
  have nS : s2.heap.objs.size ∉ frs X.stack := fun hm => by
    have : (s2.heap.objs.size : Nat) < s.heap.objs.size := frlt _ hm
    omega
  have nI : s.heap.objs.size ∉ frs X.stack := fun hm => by
    have : (s.heap.objs.size : Nat) < s.heap.objs.size := frlt _ hm
    omega
  refine ⟨_, _, _, _, _, _, _, fun s' => s'.os = s.os ∧ AllBare s'.gens ∧ Kp (frs X.stack) s.heap s'.heap, fun i v s' => ∃ n, ks[i]? = some n ∧ RdT s'.heap v n [s2.heap.objs.size, s.heap.objs.size], fun i j => PySem.W.dataLt (tupI (ks.getD i [])) (tupI (ks.getD j [])), rfl, W, st, hfp, by simp; omega, ⟨?_, ?_, ?_, ?_⟩, ?_, ?_⟩
  · rintro s1 s' ⟨j1, j2, j3⟩ m
    have hg : s'.gens = s1.gens := m.gens
    have nin : ∀ b o, s.heap.get? b = some o → b ∉ [s2.heap.objs.size, s.heap.objs.size] := fun b o e hm => by
      have h0 := Heap.lt_size e
      simp only [List.mem_cons, List.not_mem_nil, or_false] at hm
      rcases hm with h | h
      · have h1 : (s2.heap.objs.size : Nat) < s.heap.objs.size := h ▸ h0
        omega
      · have h1 : (s.heap.objs.size : Nat) < s.heap.objs.size := h ▸ h0
        omega
    refine ⟨m.os.trans j1, by rw [hg]; exact j2, fun b o e n => m.heap b o (nin b o e) (j3.keep b o e n), fun b o e => ?_⟩
    obtain ⟨sl, e1⟩ := j3.slot b o e
    exact ⟨sl, m.heap b _ (nin b o e) e1⟩
  · rintro i v s1 s' ⟨n, e1, r⟩ m
    exact ⟨n, e1, r.stay fun a o ha e => ⟨o.slots, m.heap a o ha e⟩⟩
  · rintro i v s1 o Q1 E1 hi hP ⟨j1, j2, j3⟩ ⟨st1, st2⟩ hS hQ
    have hi' : i < is.length := by
      have : its.toArray.size = is.length := by simp [hlen]
      omega
    have hx : is[i]? = some is[i] := List.getElem?_eq_getElem hi'
    have hv' : its[i]? = some v := by simpa using hP
    obtain ⟨u, hu, ru⟩ := hv.get (i := i) (x := .int is[i]) (by simp [hi'])
    rw [hv'] at hu
    obtain rfl : v = u := Option.some.inj hu
    obtain ⟨t, rfl⟩ := ru
    have I1 := inv_kp I j3 j1 j2
    have hkn := kg i _ hx
    refine call_pure hF hb I1 (A := X.A.in1) rfl hr.in1 hkn fun v' s' ho hg kp hrd => ?_
    have jS : s'.heap.get? s2.heap.objs.size = some o := kp.keep _ _ hS nS
    obtain ⟨oi, hoi, ci, di⟩ := st1
    have st1' : s'.heap.IsListIter s.heap.objs.size l (i + 1) := ⟨oi, kp.keep _ _ hoi nI, ci, di⟩
    obtain ⟨ol, hol, cl, nl, dl⟩ := st2
    have st2' : s'.heap.IsList l its.toArray := ⟨ol, kp.keep _ _ hol hlf, cl, nl, dl⟩
    have hks : ks[i]? = some (ks.getD i []) := by
      have : i < ks.length := by omega
      simp [this]
    refine hQ v' s' ⟨ho.trans j1, hg, j3.trans kp⟩ ⟨st1', st2'⟩ jS ⟨_, hks, hrd _ fun b hb => ?_⟩ ?_
    · simp only [List.mem_cons, List.not_mem_nil, or_false] at hb
      rcases hb with rfl | rfl
      · exact ⟨_, hS⟩
      · exact ⟨_, hoi⟩
    · rintro j k' ⟨n, e1, r⟩
      exact ⟨n, e1, r.stay fun a o _ e => kp.slot a o e⟩
  · rintro i j ki kj s1 Q1 E1 _ ⟨n, e1, r1⟩ ⟨m, e2, r2⟩ hQ
    have q1 : ks.getD i [] = n := by rw [List.getD_eq_getElem?_getD, e1]; rfl
    have q2 : ks.getD j [] = m := by rw [List.getD_eq_getElem?_getD, e2]; rfl
    rw [q1, q2] at hQ
    refine PySem.W.rcLt_alike _ _ X.A.in1 s1 ki kj _ _ r1.reads r2.reads (alike_tupI n m) (by simp [tupI]) ?_ X.prog X.w E1 Q1 hQ
    have := Nat.min_le_left (tupI n).depth (tupI m).depth
    have := depth_tupI n
    have := hr.un
    show X.A.units + 1 + _ < _
    omega
  · refine ⟨by rw [e2], by rw [e2]; exact I.bare, ⟨fun b o e _ => hkp b o e, fun b o e => ⟨o.slots, hkp b o e⟩⟩⟩
  · rintro v s' hP ⟨j1, j2, j3⟩
    have hsz : its.toArray.size = is.length := by simp [hlen]
    rw [hsz] at hP
    obtain ⟨b, hb'⟩ : ∃ b, b = argBest (fun i j => PySem.W.dataLt (tupI (ks.getD i [])) (tupI (ks.getD j []))) (is.length - 1) := ⟨_, rfl⟩
    rw [← hb'] at hP hq
    have hv' : its[b]? = some v := by simpa using hP
    have hbl : b < is.length := by
      have := (List.getElem?_eq_some_iff.mp hv').1
      omega
    obtain ⟨u, hu, ru⟩ := hv.get (i := b) (x := .int is[b]) (by simp [hbl])
    rw [hv'] at hu
    obtain rfl : v = u := Option.some.inj hu
    have hg : is.getD b 0 = is[b] := by simp [hbl]
    rw [hg] at hq
    exact ⟨_, H, inv_kp I j3 j1 j2, ru, hq H rfl⟩
/-- not a frame -/
theorem lst_nofr {l : Addr} {xs : List V} (I : Inv X pins σ H s) (h : SqL X.K H l xs) : l ∉ frs X.stack := fun hm => by
  rcases h with (h | ⟨o, h⟩) | ⟨o, its, n, z1, z2, _⟩
  · rw [I.stkFree l hm] at h
    cases h
  · rw [I.stkFree l hm] at h
    cases h
  · obtain ⟨hn, _⟩ := I.stack.mem hm
    have := I.ok.mod.kin _ _ z1
    rw [hn] at this
    cases this
def rMinK (K : PySem.W.Frag) (F : Fn) : V → Hp → VK → Prop := fun v H Q => ∃ (l : Addr) (is : List Int) (ks : List (List Int)), v = .ref l ∧ SqL K H l (is.map V.int) ∧ keysNs F is = some ks ∧ is ≠ [] ∧
  Q (.int (is.getD (argBest (fun i j => PySem.W.dataLt (tupI (ks.getD i [])) (tupI (ks.getD j []))) (is.length - 1)) 0)) H
def rMinKK (K : PySem.W.Frag) (F : Fn) (f : Addr) (vs zs : List V) (H : Hp) (Q : VK) : Prop := match vs, zs with
  | [v], [z] => z = .ref f ∧ rMinK K F v H Q
  | _, _ => False
theorem cr_minKey {k : Nat} {f : Addr} {fd : FuncData} {p : Str} {F : Fn} (hF : FnOk X.prog X.w X.K X.mg X.base CX0 k f fd [p] (spD X.K ([], []) F)) (hb : Binds X.K fd [p] []) (hr : Room (k + 1) X.A) :
    CallRK X (.builtin "min") [Str.ofString "key"] (rMinKK X.K F f) := by
  intro pins s σ H vs zs us ws Q I r rz h
  unfold rMinKK at h
  split at h
  case h_2 => exact h.elim
  obtain ⟨rfl, l, is, ks, rfl, hs, hk, hne, q⟩ := h
  obtain rfl := Vals.ref1 r
  obtain rfl := Vals.ref1 rz
  obtain ⟨its, rv, pl, _⟩ := I.list hs
  exact min_key hF hb hr I pl.isList rv hk hne (lst_nofr I hs) fun H' e => by
    rw [e]
    exact q
theorem o1_minK {F : Fn} {f : Addr} : Op1 X T (fun v H Q => V.ref f = .ref f ∧ rMinK X.K F v H Q) (gMinK F) := by
  intro G H L x z vx cx ox mx S ez Q hQ
  unfold gMinK at ez
  obtain ⟨xs, e1, ez⟩ := bind_eq ez
  obtain ⟨is, e2, ez⟩ := bind_eq ez
  obtain ⟨ks, e3, ez⟩ := bind_eq ez
  split at ez
  · cases ez
  · rename_i hne
    cases ez
    obtain ⟨p, vs, rfl, hp, hq⟩ := lst_of ox mx S e1
    have := ints_dps e2 hq
    subst this
    exact ⟨rfl, p, is, ks, rfl, hp, e3, hne, hQ G _ H [] (.refl _) (.d (.int _)) S⟩
/-- min(a, key=f) -/
theorem ev_minK {a : Expr} {fa : ExP} {k : Nat} {f : Addr} {fd : FuncData} {p fk : Str} {pm pk kp pos : Pos} {F : Fn} (hF : FnOk X.prog X.w X.K X.mg X.base CX0 k f fd [p] (spD X.K ([], []) F)) (hr : Room (k + 1) X.A) (hm : X.mg "min" = none) (hmf : X.mg fk = some (.ref f)) (hb : Binds X.K fd [p] [])
    (ha : OV X T a fa) (hg : Gl X "min" := by rfl) (hgf : Gl X fk := by rfl) (hdb : (fk == ("__debug__" : Str)) = false := by decide)
    (he : backTo pos (starEach [a] X.env) = (false, eval a X.env) :: backTo pos (starEach [] X.env) := by rfl) (hpl : (backTo pos (starEach [a] X.env)).any (·.1) = false := by rfl)
    (hall : (backToKw pos (keywordEach [⟨some "key", .Name fk pk, kp⟩] X.env)).all (·.1.isSome) = true := by rfl) (hnone : (backToKw pos (keywordEach [⟨some "key", .Name fk pk, kp⟩] X.env)).any (·.1.isNone) = false := by rfl) (hks : (backToKw pos (keywordEach [⟨some "key", .Name fk pk, kp⟩] X.env)).filterMap (·.1) = [Str.ofString "key"] := by rfl)
    (hse : starEach [a] X.env = (false, eval a X.env) :: starEach [] X.env := by rfl) :
    EV X T (.Call (.Name "min" pm) [a] [⟨some "key", .Name fk pk, kp⟩] pos) (eOp1 (gMinK F) fa) :=
  ev_of1 (o1_minK (f := f)) ha fun {ta} pa => ⟨fun pins s σ H Q I h =>
    (pe_callBK (cr_minKey hF hb hr) hg hm (by decide +kernel) (pa_cons pa pa_nil hse) (pk_cons (pe_glob (v := .ref f) hgf hmf rfl hdb) pk_nil) (by decide) (by decide) he hpl hall hnone hks).run pins s σ H Q I h⟩
/-! ### min of alike data -/
theorem min_list_i {l : Addr} {vs : Array Value} {x : D} {xs : List D} {as : List Addr} {Q : Value → Shared → Prop} (hh : X.A.handled = none) (hl : s.heap.IsList l vs) (hr : ReadsAll s.heap vs.toList (x :: xs) as) (ha : PySem.W.AlikeAll (x :: xs)) (hu : X.A.units + 1 + PyData.depthAll (x :: xs) < cLine)
    (h : ∀ (i : Nat) v h' tk, vs[i]? = some v → (x :: xs).getD i .none = PySem.W.minD x xs → (∀ b o, s.heap.get? b = some o → h'.get? b = some o) → Q v { s with heap := h', toks := tk }) :
    wpAny (model X.prog X.w) X.A (call (.builtin "min") [.ref l]) Q E s := by
  have hn : vs.size = xs.length + 1 := PySem.W.readsAll_len hr
  refine call_min_walkH (PySem.W.iter_listW (A := X.A.in1) hh hl fun s₂ e W st hfp hw hk => ?_)
  refine ⟨_, _, _, _, _, _, _, s.heap, _, rfl, W, st, hfp, by omega, hw, hk, PySem.W.cmpIn_lt (A := X.A.in1) hr ha (by show X.A.units + 1 + _ < _; exact hu), fun v s' hP m => ?_⟩
  obtain ⟨h', tk, rfl, hk'⟩ := PySem.W.moved_old e rfl m
  have e1 : vs.size - 1 = xs.length := by omega
  have e2 := (PySem.W.argBest_fold PySem.W.dataLt PyData.none x xs xs.length (Nat.le_refl _)).2
  rw [List.take_length] at e2
  rw [e1] at hP
  exact h _ v h' tk hP (by unfold PySem.W.minD; exact e2) hk'
theorem min_tuple_i {l : Addr} {vs : Array Value} {x : D} {xs : List D} {as : List Addr} {Q : Value → Shared → Prop} (hh : X.A.handled = none) (hl : s.heap.IsTuple l vs) (hr : ReadsAll s.heap vs.toList (x :: xs) as) (ha : PySem.W.AlikeAll (x :: xs)) (hu : X.A.units + 1 + PyData.depthAll (x :: xs) < cLine)
    (h : ∀ (i : Nat) v h' tk, vs[i]? = some v → (x :: xs).getD i .none = PySem.W.minD x xs → (∀ b o, s.heap.get? b = some o → h'.get? b = some o) → Q v { s with heap := h', toks := tk }) :
    wpAny (model X.prog X.w) X.A (call (.builtin "min") [.ref l]) Q E s := by
  have hn : vs.size = xs.length + 1 := PySem.W.readsAll_len hr
  refine call_min_walkH (PySem.W.iter_tupleW (A := X.A.in1) hh hl fun s₂ e W st hfp hw hk => ?_)
  refine ⟨_, _, _, _, _, _, _, s.heap, _, rfl, W, st, hfp, by omega, hw, hk, PySem.W.cmpIn_lt (A := X.A.in1) hr ha (by show X.A.units + 1 + _ < _; exact hu), fun v s' hP m => ?_⟩
  obtain ⟨h', tk, rfl, hk'⟩ := PySem.W.moved_old e rfl m
  have e1 : vs.size - 1 = xs.length := by omega
  have e2 := (PySem.W.argBest_fold PySem.W.dataLt PyData.none x xs xs.length (Nat.le_refl _)).2
  rw [List.take_length] at e2
  rw [e1] at hP
  exact h _ v h' tk hP (by unfold PySem.W.minD; exact e2) hk'
theorem reads_all {h : Heap} : ∀ {us : List Value} {ds : List D}, PySem.W.EachIs (fun u d => ∃ as, Reads h u (id d) as) us ds → ∃ as, ReadsAll h us ds as
  | [], [], .nil => ⟨[], .nil⟩
  | u :: us, d :: ds, .cons ⟨as, r⟩ rs => by
    obtain ⟨bs, q⟩ := reads_all rs
    exact ⟨_, .cons r q⟩
theorem depthAll_le {n : Nat} : ∀ {ds : List D}, (∀ d ∈ ds, d.depth ≤ n) → PyData.depthAll ds ≤ n
  | [], _ => by simp [PyData.depthAll]
  | d :: ds, h => by
    rw [PyData.depthAll]
    exact Nat.max_le.mpr ⟨h d List.mem_cons_self, depthAll_le fun x hx => h x (List.mem_cons_of_mem _ hx)⟩
theorem o1_minD {k : Nat} (hr : Room k X.A) : Op1 X T (fun v H Q => canC X (.builtin "min") [v] H Q) gMinD := by
  intro G H L x z vx cx ox mx S ez Q hQ
  unfold gMinD at ez
  obtain ⟨xs, e1, ez⟩ := bind_eq ez
  cases xs with
  | nil => cases ez
  | cons y ys =>
    simp only at ez
    split at ez
    · rename_i hc
      cases ez
      obtain ⟨h1, h2, h3⟩ := hc
      obtain ⟨p, vs, rfl, hp, hq⟩ := seq_of ox mx S e1
      have hal : PySem.W.AlikeAll (y :: ys) := by
        refine ⟨fun a ha b hb => ?_, fun a ha => ?_⟩
        · unfold allAlikeB at h1
          rw [List.all_eq_true] at h1
          exact List.all_eq_true.mp (h1 a ha) b hb
        · have := List.all_eq_true.mp h2 a ha
          rw [Bool.and_eq_true] at this
          rintro rfl
          exact absurd this.1 (by simp [notN])
      have hdp : PyData.depthAll (y :: ys) ≤ 64 := depthAll_le fun d hd => by
        have := List.all_eq_true.mp h2 d hd
        rw [Bool.and_eq_true] at this
        exact of_decide_eq_true this.2
      have hu : X.A.units + 1 + PyData.depthAll (y :: ys) < cLine := by
        have := hr.un
        omega
      intro pins s σ us I rv
      obtain ⟨u, rfl, ru⟩ := vals1 rv
      cases ru
      have fin : ∀ {its : List Value}, Vals vs its → ∀ (i : Nat) (v : Value) (h' : Heap) (tk : Nat), its.toArray[i]? = some v → (y :: ys).getD i .none = PySem.W.minD y ys → (∀ b o, s.heap.get? b = some o → h'.get? b = some o) → EP X pins σ Q v { s with heap := h', toks := tk } := fun {its} r i v h' tk hi hd hk => by
        have hi' : its[i]? = some v := by simpa using hi
        have hil : i < (y :: ys).length := by
          have := (List.getElem?_eq_some_iff.mp hi').1
          have := r.length
          have := dps_len hq
          omega
        have hx : (y :: ys)[i]? = some ((y :: ys).getD i .none) := by
          rw [List.getD_eq_getElem?_getD, List.getElem?_eq_getElem hil]
          rfl
        obtain ⟨w, hw, dw⟩ := dps_get hq hx
        obtain ⟨u2, hu2, ru2⟩ := r.get (i := i) (x := w) hw
        rw [hi'] at hu2
        obtain rfl : v = u2 := Option.some.inj hu2
        rw [hd] at dw
        exact ⟨w, H, I.kept (t' := tk) hk, ru2, hQ G _ H [] (.refl _) (.d dw) S⟩
      rcases hp with hp | hp
      · obtain ⟨its, r, pl, _⟩ := I.list hp
        obtain ⟨_, q2⟩ := each_of (K := X.K) I S.same hq h3 r
        obtain ⟨as, ra⟩ := reads_all q2
        exact min_list_i (as := as) hr.hd pl.isList (by simpa using ra) hal hu (fin r)
      · obtain ⟨its, r, pl, _⟩ := I.tuple hp
        obtain ⟨_, q2⟩ := each_of (K := X.K) I S.same hq h3 r
        obtain ⟨as, ra⟩ := reads_all q2
        exact min_tuple_i (as := as) hr.hd pl (by simpa using ra) hal hu (fin r)
    · cases ez
end
end Sh

/-! Shift layer: list(d). -/
namespace Sh
open PySem PySem.Spec PyProof.Rows L2
def gListD (x : O) : Option O := match x with
  | .k _ _ => none
  | _ => (oDct x).bind fun p => some (.l (p.2.map (·.1)))
section
variable {K : PySem.W.Frag} {T : TabsT} {G H : Hp} {L : List Cell}
theorem key_dqL (k : Key) : Dq K G (kV k) (keyD k) := by
  cases k with
  | inl i => exact .int i
  | inr x => exact .str x
theorem keys_dqL : ∀ ks : List Key, DqAll K G (ks.map kV) (ks.map keyD)
  | [] => .nil
  | k :: ks => .cons (key_dqL k) (keys_dqL ks)
theorem keysK : ∀ {kvs : List (D × D)} {ks : List (Key × V)}, KVr K G kvs ks → DqAll K G (ks.map fun kv => kV kv.1) (kvs.map (·.1))
  | _, _, .nil => .nil
  | _, _, .cons h t => by
    refine .cons ?_ (keysK t)
    show Dq K G (kV _) _
    simp only []
    rw [h.1]
    exact key_dqL _
theorem pair_mem {α β : Type} {F : α → β → Prop} : ∀ {xs : List α} {ys : List β}, Paired F xs ys → ∀ b ∈ ys, ∃ a, F a b
  | _, _, .nil, b, h => by cases h
  | _, _, .cons h t, b, hb => by
    rcases List.mem_cons.mp hb with z | z
    · subst z
      exact ⟨_, h⟩
    · exact pair_mem t b z
/-- the key tuples stand for ever -/
theorem tups_in {ks : List (List Key × V)} {bs : List Addr} (S : Sep T G H L) (h : IsKeys H ks bs) : ∃ G', Same G G' ∧ Sep T G' H L ∧ DqAll K G' (bs.map V.ref) (ks.map fun p => PyData.tuple (p.1.map keyD)) := by
  have hm : ∀ b ∈ bs, ∃ xs, H b = some (.tup xs) := fun b hb => by
    obtain ⟨p, e⟩ := pair_mem h b hb
    exact ⟨_, e⟩
  have hG : ∀ b ∈ bs, (fun b => if b ∈ bs then H b else G b) b = H b := fun b hb => if_pos hb
  refine ⟨fun b => if b ∈ bs then H b else G b, fun b x e => ?_, ⟨S.nd, fun c hc => ⟨(S.at_ c hc).1, ?_⟩, fun b x e => ?_, fun P hP => ?_, S.uq, fun q hq => ?_, S.nt⟩, ?_⟩
  · by_cases hb : b ∈ bs
    · show (if b ∈ bs then H b else G b) = _
      rw [if_pos hb]
      exact S.same _ _ e
    · show (if b ∈ bs then H b else G b) = _
      rw [if_neg hb]
      exact e
  · by_cases hb : c.1 ∈ bs
    · obtain ⟨xs, e⟩ := hm _ hb
      rw [(S.at_ c hc).1] at e
      exact absurd (Option.some.inj e) ((S.nt c hc).1 xs)
    · show (if c.1 ∈ bs then H c.1 else G c.1) = _
      rw [if_neg hb]
      exact (S.at_ c hc).2
  · by_cases hb : b ∈ bs
    · have e : (if b ∈ bs then H b else G b) = some x := e
      rw [if_pos hb] at e
      exact e
    · have e : (if b ∈ bs then H b else G b) = some x := e
      rw [if_neg hb] at e
      exact S.same _ _ e
  · obtain ⟨a, b, c⟩ := S.tab P hP
    refine ⟨a, ?_, c⟩
    show (if P.1 ∈ bs then H P.1 else G P.1) = _
    rw [if_neg]
    · exact b
    · intro hb
      obtain ⟨xs, e⟩ := hm _ hb
      obtain ⟨ps, q⟩ := tab_at a
      rw [q] at e
      cases e
  · obtain ⟨a, b⟩ := S.kn q hq
    refine ⟨?_, b⟩
    by_cases hb : q.1 ∈ bs
    · show (if q.1 ∈ bs then H q.1 else G q.1) = _
      rw [if_pos hb]
      exact S.same _ _ a
    · show (if q.1 ∈ bs then H q.1 else G q.1) = _
      rw [if_neg hb]
      exact a
  · have go : ∀ {ks : List (List Key × V)} {cs : List Addr}, IsKeys H ks cs → (∀ b ∈ cs, b ∈ bs) → DqAll K (fun b => if b ∈ bs then H b else G b) (cs.map V.ref) (ks.map fun p => PyData.tuple (p.1.map keyD)) := fun {ks cs} h hs => by
      unfold IsKeys at h
      induction h with
      | nil => exact .nil
      | @cons p b _ _ h t ih =>
        refine .cons (.tup (xs := p.1.map kV) ?_ (keys_dqL _)) (ih fun b hb => hs b (List.mem_cons_of_mem _ hb))
        show (if b ∈ bs then H b else G b) = _
        rw [if_pos (hs b List.mem_cons_self)]
        exact h
    exact go h fun _ z => z
theorem keysT : ∀ {kvs : List (D × D)} {ks : List (List Key × V)}, KVt K G kvs ks → kvs.map (·.1) = ks.map fun p => PyData.tuple (p.1.map keyD)
  | _, _, .nil => rfl
  | _, _, .cons h t => by
    rw [List.map_cons, List.map_cons, keysT t, h.1]
end
section
variable {X : Cx} {T : TabsT}
theorem o1_listD (hc : X.calm = true) : Op1 X T (fun v H Q => canC X (.type "list") [v] H Q) gListD := by
  intro G H L x z vx cx ox mx S ez Q hQ
  have main : ∀ {p : Addr} {u : HO} {t : Bool} {kvs : List (D × D)}, DR X.K G t kvs u → H p = some u → z = .l (kvs.map (·.1)) → vx = .ref p → canC X (.type "list") [vx] H Q := fun {p u t kvs} dr hp ez ev => by
    subst ez ev
    cases dr with
    | k r => exact can_of (call_list_dK hc) ⟨p, _, rfl, hp, fun q hq => hQ G _ _ [(q, .lst _)] (.refl _) (.l (keysK r)) (S.owned hq)⟩
    | t r =>
      refine can_of (call_list_dT hc) ⟨p, _, rfl, .inl hp, fun q bs hq hk => ?_⟩
      obtain ⟨G', m, S', d⟩ := tups_in (K := X.K) S hk
      refine hQ G' _ _ [(q, .lst (bs.map V.ref))] m (.l ?_) (S'.owned hq)
      rw [keysT r]
      exact d
  unfold gListD at ez
  split at ez
  · cases ez
  · obtain ⟨⟨t, kvs⟩, e1, ez⟩ := bind_eq ez
    cases ez
    cases ox with
    | @m t kvs p u dr =>
      cases e1
      exact main dr (S.at_ (p, u) (mx _ List.mem_cons_self)).1 rfl rfl
    | d h =>
      cases h with
      | @dcK a ks kvs0 h hs =>
        rw [oDct_k hs] at e1
        cases e1
        exact main (.k (dq_kvr hs)) (S.same _ _ h) rfl rfl
      | @dcT a ks kvs0 h hs =>
        cases e1
        exact main (.t (dq_kvt hs)) (S.same _ _ h) rfl rfl
      | _ => cases e1
    | k _ _ => rename_i hne; exact absurd rfl (hne _ _)
    | _ => cases e1
end
end Sh

/-! Shift layer: exceptions with a field: raised. -/
namespace Sh
open PySem PySem.Spec PyProof.Rows L2
/-- self.f = y of an exception that is being made -/
def spI (C : Addr) (f : Str) : Sp := fun vs H Q _ => ∃ a y, vs = [.ref a, y] ∧ H a = some (exo a C none) ∧ ∀ dx, H dx = none → dx ≠ a → Q .non (upd (upd H dx (exd dx [(f, y)])) a (exo a C (some dx)))
/-- what the written part says of an exception class with its own __init__ -/
def oexB (K : PySem.W.Frag) (C : Addr) (f : Str) : Bool := (match K.lookup C with
  | some ⟨.type "type", _, .cls cd, sl⟩ => (match cd.mro, sl.toList with
    | .ref C' :: bm, [_, _, _, _, some (.builtin n), _] => C' == C && n == "ValueError.__new__" && !cd.hasDel && cd.hasDict && PySem.HandSPX.refsVE bm
    | _, _ => false)
  | _ => false) && (decide (PySem.W.findIn K (.ref C) "__setattr__" = some (some (.builtin "object.__setattr__"))) && (decide (PySem.W.subIn K (.ref C) (.type "BaseException") = some true) && (decide (PySem.W.typeIn K (.ref C) = some (.type "type")) && (PySem.W.keepIn K (.ref C) && decide (PySem.W.findIn K (.ref C) f = some none)))))
theorem oexC_of {K : PySem.W.Frag} {C : Addr} {f : Str} (h : oexB K C f = true) : OexC K C ∧ PySem.W.findIn K (.ref C) f = some none := by
  unfold oexB at h
  obtain ⟨h1, h⟩ := Bool.and_eq_true_iff.mp h
  obtain ⟨h2, h⟩ := Bool.and_eq_true_iff.mp h
  obtain ⟨h3, h⟩ := Bool.and_eq_true_iff.mp h
  obtain ⟨h4, h⟩ := Bool.and_eq_true_iff.mp h
  obtain ⟨h5, h6⟩ := Bool.and_eq_true_iff.mp h
  refine ⟨⟨?_, of_decide_eq_true h2, of_decide_eq_true h3, of_decide_eq_true h4, h5⟩, of_decide_eq_true h6⟩
  split at h1
  · rename_i d cd sl hC
    split at h1
    · rename_i C' bm k0 k1 k2 k3 n k5 e1 e2
      simp only [Bool.and_eq_true, beq_iff_eq, Bool.not_eq_true'] at h1
      obtain ⟨⟨⟨⟨a1, a2⟩, a3⟩, a4⟩, a5⟩ := h1
      obtain ⟨nm, bs, mro, ns, qn, hd, sn, sb, ab, col, del⟩ := cd
      dsimp only at e1 a3 a4
      subst a1 a2 a3 a4
      subst e1
      have e3 : sl = #[k0, k1, k2, k3, some (.builtin "ValueError.__new__"), k5] := Array.toList_inj.mp e2
      subst e3
      exact ⟨_, _, _, _, _, _, _, _, _, _, _, _, _, _, _, hC, a5⟩
    · cases h1
  · cases h1
section
variable {P : Program} {w : World} {K : PySem.W.Frag} {mg : Str → Option Value} {base : Heap}
/-- __init__(self, f): self.f = f -/
theorem init_ok {CX : CXT} {qual : Str} {st : Stmt} {fI C : Addr} {fd : FuncData} {f : Str} {k : Nat} {p1 p2 p3 p4 : Pos} (F : L2.Fun K "__init__" qual st fI fd) (S : FnScope ["self", f] ["self", f] (defScope st)) (T : OexC K C) (hno : PySem.W.findIn K (.ref C) f = some none)
    (hb : defBody st = [.Assign [.Attribute (.Name "self" p1) f p2] (.Name f p3) p4]) (hne : f ≠ "self") (hdb : (f == ("__debug__" : Str)) = false) (hcd : (f == ("__classdict__" : Str)) = false)
    (hv1 : Vis (defScope st) "self") (hv2 : Vis (defScope st) f) (hsw : ∀ X : Cx, X.env.scope = defScope st → swapsWith (.Name f p3) (some (.Attribute (.Name "self" p1) f p2)) p4.line X.env = pure false) :
    FnOk P w K mg base CX (k + 1) fI fd ["self", f] (spI C f) := by
  obtain ⟨oc, od, kV, doc, pm, an, cdv, ct, osl, efd, lkf, hcd'⟩ := F.ex
  subst efd
  refine fn_of lkf hcd' S (fun vs H Q E h => ?_) (fun A outer s H vs Q E hr h => ?_)
  · obtain ⟨a, y, e, _⟩ := h
    rw [e]
    rfl
  · obtain ⟨a, y, e, ha, hq⟩ := h
    subst e
    rw [hb]
    refine ⟨_, pss_one (ps_ost (pe_var (i := 0) rfl hv1 (by decide) (by decide)) (pe_var (i := 1) rfl hv2 hdb hcd) (hsw _ rfl)), ?_⟩
    exact ⟨y, rfl, .ref a, rfl, a, C, rfl, T, hno, .inl ⟨ha, fun dx h1 h2 => hq dx h1 h2⟩⟩
end
section
variable {X : Cx} {T : TabsT} {lk : Nat → Bool} {e : Expr} {pos : Pos}
theorem sv_raise1 {x : Str} {C fI : Addr} {fd : FuncData} {f : Str} {k : Nat} {fa : Ex} {p pos' : Pos} (hI : FnOk X.prog X.w X.K X.mg X.base CX0 k fI fd ["self", f] (spI C f)) (hr : Room (k + 1) X.A) (hb : Binds X.K fd ["self", f] []) (TC : OexC X.K C)
    (iC : PySem.W.findIn X.K (.ref C) "__init__" = some (some (.ref fI))) (tI : PySem.W.typeIn X.K (.ref fI) = some (.type "function")) (hm : X.mg x = some (.ref C)) (hc : X.calm = true) (ha : EV X T e fa)
    (hg : Gl X x := by rfl) (hdb : (x == ("__debug__" : Str)) = false := by decide) (he : starEach [e] X.env = (false, eval e X.env) :: starEach [] X.env := by rfl) : SV X T lk (.Raise (some (.Call (.Name x p) [e] [] pos)) none pos') (sRaise1 x f fa) := by
  obtain ⟨te, pe, h⟩ := ha
  refine ⟨_, ps_raise hc takes_wof (pmk_oex TC iC tI hI hr hb .nil pass0 hg hm (pa_cons pe pa_nil he) hdb he (by rfl)), fun env r hf G σ H L Lx hR hS D hD => ?_⟩
  unfold sRaise1 at hf
  obtain ⟨⟨o, env1⟩, e1, hf⟩ := bind_eq hf
  simp only at hf
  split at hf
  · rename_i y
    cases hf
    refine h env _ env1 e1 G σ H L Lx hR hS _ fun G1 v H1 L1 Lo s1 ot R1 S1 => ?_
    cases ot with
    | d ot =>
      refine ⟨show (1 : Nat) ≤ 1000 by decide, fun a ha => ?_⟩
      refine ⟨a, v, rfl, upd_same, fun dx hdx hne => ⟨rfl, dx, [(f, v)], upd_same, ?_, ?_, ?_⟩⟩
      · rw [upd_ne hne, upd_same]
      · rw [upd_ne hne] at hdx
        exact hdx
      · have hdx' : H1 dx = none := by
          rw [upd_ne hne] at hdx
          exact hdx
        have eH : upd (L2.del (upd (upd (upd H1 a (exo a C none)) dx (exd dx [(f, v)])) a (exo a C (some dx))) a) dx (.xd [(f, v)]) = upd H1 dx (.xd [(f, v)]) := by
          funext b
          by_cases hb : b = dx
          · subst hb
            rw [upd_same, upd_same]
          · rw [upd_ne hb, upd_ne hb]
            by_cases hb2 : b = a
            · subst hb2
              rw [L2.del_same, ha]
            · rw [L2.del_ne hb2, upd_ne hb2, upd_ne hb, upd_ne hb2]
        rw [eH]
        have m := same_new (o := .xd [(f, v)]) (S1.fresh hdx').1
        exact hD _ σ _ L1 (.ref C) (some dx) (s1.trans m) (fun _ _ => rfl) (rel_mono m R1) (S1.frozen hdx') ⟨hm, dx, v, rfl, upd_same, dp_mono m _ _ ot⟩
  · cases hf
end
end Sh

/-! Shift layer: a caught exception; a lambda handed on; a def that tells what is raised. -/
namespace Sh
open PySem PySem.Spec PyProof.Rows L2
abbrev rfD (a : Addr) : D := .dict [(.bool false, .int (a : Nat))]
/-- isinstance(e, C), asked of the caught one -/
def eIsE (a : Addr) (i : Nat) (b : Bool) : Ex := fun e => match slot e i with
  | some (.d (.dict [(.bool false, .int a')])) => if a' = (a : Nat) then some (.d (.bool b), e) else none
  | _ => none
/-- e.f of the caught one -/
def eFldE (a : Addr) (i : Nat) (f : Str) (fl : Option (Str × D)) : Ex := fun e => match slot e i with
  | some (.d (.dict [(.bool false, .int a')])) => if a' = (a : Nat) then (match fl with
    | some (g, y) => if g = f then some (.d y, e) else none
    | none => none) else none
  | _ => none
theorem eIsE_run {a : Addr} {i : Nat} {b : Bool} {e : Ev} (h : slot e i = some (.d (rfD a))) : eIsE a i b e = some (.d (.bool b), e) := by
  unfold eIsE
  rw [h]
  show (if ((a : Nat) : Int) = (a : Nat) then _ else _) = _
  rw [if_pos rfl]
theorem eFldE_run {a : Addr} {i : Nat} {f : Str} {y : D} {e : Ev} (h : slot e i = some (.d (rfD a))) : eFldE a i f (some (f, y)) e = some (.d y, e) := by
  unfold eFldE
  rw [h]
  show (if ((a : Nat) : Int) = (a : Nat) then (if f = f then _ else _) else _) = _
  rw [if_pos rfl, if_pos rfl]
/-- what the written part says of an exception's class, for isinstance -/
def excB (K : PySem.W.Frag) (D : Addr) : Bool := decide (PySem.W.findIn K (.ref D) "__getattribute__" = some (some (.builtin "BaseException.__getattribute__"))) && (decide (PySem.W.findIn K (.ref D) "__getattr__" = some none) && (decide (PySem.W.subIn K (.ref D) (.type "BaseException") = some true) &&
  (PySem.W.hasDictIn K D && (decide (PySem.W.findIn K (.ref D) "__class__" = some (some (.builtin "object.__class__"))) && (decide (PySem.W.specialIn K (.builtin "object.__class__") "__get__" = some (some (.builtin "getset_descriptor.__get__"))) && (decide (PySem.W.takesIn K (.builtin "object.__class__") = some true) && decide (PySem.W.mroIn K D (.type "object") = some true)))))))
theorem excC_of {K : PySem.W.Frag} {D : Addr} (h : excB K D = true) : ExcC K D := by
  unfold excB at h
  obtain ⟨h1, h⟩ := Bool.and_eq_true_iff.mp h
  obtain ⟨h2, h⟩ := Bool.and_eq_true_iff.mp h
  obtain ⟨h3, h⟩ := Bool.and_eq_true_iff.mp h
  obtain ⟨h4, h⟩ := Bool.and_eq_true_iff.mp h
  obtain ⟨h5, h⟩ := Bool.and_eq_true_iff.mp h
  obtain ⟨h6, h⟩ := Bool.and_eq_true_iff.mp h
  obtain ⟨h7, h8⟩ := Bool.and_eq_true_iff.mp h
  exact ⟨of_decide_eq_true h1, of_decide_eq_true h2, of_decide_eq_true h3, h4, of_decide_eq_true h5, of_decide_eq_true h6, of_decide_eq_true h7, of_decide_eq_true h8⟩
/-- the caught exception: of the class at D, its dict at d -/
structure CExc (K : PySem.W.Frag) (a : Addr) (oe : Obj) (T : TabsT) (x : Xn) (D : Addr) (d : Option Addr) : Prop where
  hz : Zc (.ref D) d oe
  hf : ∃ vs, oe.data = .fields vs
  ec : ExcC K D
  fl : match x.fld with
    | none => d = none
    | some (f, y) => ∃ dx w, d = some dx ∧ (dx, HO.xd [(f, w)]) ∈ T.2 ∧ (∀ G, Dq K G w y) ∧ PySem.W.findIn K (.ref D) f = some none
section
variable {X : Cx} {a : Addr} {oe : Obj} {pn : List (Addr × Obj)} {T : TabsT} {x : Xn} {DD : Addr} {d : Option Addr} {pos p1 p2 p3 : Pos}
def rIsX (K : PySem.W.Frag) (a CC : Addr) (d : Option Addr) (b : Bool) : List V → Hp → VK → Prop := fun xs H Q => xs = [.ref a, .ref CC] ∧ (d = none ∨ ∃ dx fs, d = some dx ∧ H dx = some (.xd fs)) ∧ Q (.bl b) H
theorem call_isX {CC : Addr} {b : Bool} (C : CExc X.K a oe T x DD d) (hk : PySem.W.kitOne X.K (.ref DD) (.ref CC) = some b) : CallR (X.suite a ((a, oe) :: pn)) (.builtin "isinstance") (rIsX X.K a CC d b) := by
  intro pins s σ H xs us Q I r h
  obtain ⟨rfl, hd, q⟩ := h
  cases r with
  | cons rx rr =>
    cases rr with
    | cons rt rr =>
      cases rr
      cases rx
      cases rt
      obtain ⟨hget, _⟩ := I.pin (a, oe) (List.mem_append.mpr (.inl List.mem_cons_self))
      obtain ⟨vs, hv⟩ := C.hf
      have hz := C.hz
      have J : ∃ od, PySem.W.InstAt s.heap a oe DD od := by
        obtain ⟨oc, od, oda, osl⟩ := oe
        obtain ⟨h1, h2⟩ := hz
        dsimp only at h1 h2 hv
        subst h1 h2 hv
        rcases hd with z | ⟨dx, fs, z, hx⟩
        · subst z
          exact ⟨none, hget, rfl, rfl, trivial⟩
        · subst z
          have hx : ObjOk X.prog X.w H s.heap dx (.xd fs) := I.hok dx _ hx
          obtain ⟨mA, hns, hr⟩ := hx
          obtain ⟨ob, ho, hl⟩ := lookIn_ns hns
          exact ⟨some ob, hget, rfl, rfl, ho⟩
      obtain ⟨od, J⟩ := J
      have E := C.ec
      have hcl : (PySem.W.clsIn X.K DD).isSome = true := by
        obtain ⟨cd, hc, _⟩ := PySem.W.any_some E.hd
        rw [hc]
        rfl
      exact PySem.W.kia_one (PySem.W.kitx_exc hcl E.hg E.hk E.hs E.ha E.hn E.ht E.hm) I.kIn J hk (fun z => nomatch z) fun tk => ⟨.bl b, H, I.kept (t' := tk) fun _ _ z => z, rfl, q⟩
/-- isinstance(e, C) -/
theorem ev_isX {n c : Str} {CC : Addr} {b : Bool} (i : Nat) (C : CExc X.K a oe T x DD d) (hk : PySem.W.kitOne X.K (.ref DD) (.ref CC) = some b) (hmi : X.mg "isinstance" = none) (hmc : X.mg c = some (.ref CC))
    (hN : X.N[i]? = some n := by rfl) (hv : Vis X.env.scope n := by first | exact Or.inl rfl | exact Or.inr (Or.inl rfl) | exact Or.inr (Or.inr rfl)) (hd : (n == ("__debug__" : Str)) = false := by decide) (hcd : (n == ("__classdict__" : Str)) = false := by decide)
    (hgi : Gl X "isinstance" := by rfl) (hgc : Gl X c := by rfl) (hdc : (c == ("__debug__" : Str)) = false := by decide)
    (hs1 : starEach [.Name n p1, .Name c p2] X.env = (false, eval (.Name n p1) X.env) :: starEach [.Name c p2] X.env := by rfl) (hs2 : starEach [.Name c p2] X.env = (false, eval (.Name c p2) X.env) :: starEach [] X.env := by rfl) (hpl : (backTo pos (starEach [.Name c p2] X.env)).any (·.1) = false := by rfl) :
    EV (X.suite a ((a, oe) :: pn)) T (.Call (.Name "isinstance" p3) [.Name n p1, .Name c p2] [] pos) (eIsE a i b) := by
  refine ⟨_, pe_callB (call_isX C hk) hgi hmi (by decide +kernel) (pa_cons (pe_var (i := i) hN hv hd hcd) (pa_cons (pe_glob (v := .ref CC) hgc hmc rfl hdc) pa_nil hs2) hs1) (by decide) (by decide) hs1 hpl, fun env o env' hf G σ H L Lx hR hS Q hQ => ?_⟩
  unfold eIsE at hf
  split at hf
  · rename_i a' es
    split at hf
    · rename_i ea
      cases hf
      subst ea
      obtain ⟨v, c', h1, h2, h3⟩ := rel_get hR es
      have hv : v = .ref a := by
        cases h2 with
        | d h2 =>
          generalize he : (PyData.dict [(PyData.bool false, PyData.int ((a : Nat) : Int))]) = dd at h2
          cases h2 with
          | rf =>
            injection he with he
            injection he with he _
            injection he with _ he
            injection he with he
            have := Int.ofNat.inj he
            rw [this]
          | dcK _ hs =>
            injection he with he
            subst he
            exact (dqk_bool hs).elim
          | dcT _ hs =>
            injection he with he
            injection he with he _
            injection he with he _
            cases he
          | rng _ =>
            injection he with he
            injection he with he _
            injection he with he _
            cases he
          | _ => cases he
      subst hv
      refine ⟨.ref a, h1, rfl, ?_, hQ G _ H L [] (.refl _) (.d (.bl b)) hR hS⟩
      have fl := C.fl
      cases hx : x.fld with
      | none =>
        rw [hx] at fl
        exact .inl fl
      | some p =>
        rw [hx] at fl
        obtain ⟨f, y⟩ := p
        obtain ⟨dx, w, e1, e2, _⟩ := fl
        exact .inr ⟨dx, _, e1, hS.same _ _ (hS.kn _ e2).1⟩
    · cases hf
  · cases hf
/-- the slot of the caught one -/
theorem rf_of {K : PySem.W.Frag} {G : Hp} {v : V} {c : List Cell} {a' : Int} (h : OT K G (.d (.dict [(.bool false, .int a')])) v c) : ∃ b : Addr, a' = (b : Nat) ∧ v = .ref b := by
  cases h with
  | d h2 =>
    generalize he : (PyData.dict [(PyData.bool false, PyData.int a')]) = dd at h2
    cases h2 with
    | @rf b =>
      injection he with he
      injection he with he _
      injection he with _ he
      injection he with he
      exact ⟨b, he, rfl⟩
    | dcK _ hs =>
      injection he with he
      subst he
      exact (dqk_bool hs).elim
    | dcT _ hs =>
      injection he with he
      injection he with he _
      injection he with he _
      cases he
    | rng _ =>
      injection he with he
      injection he with he _
      injection he with he _
      cases he
    | _ => cases he
/-- e.f -/
theorem ev_fldX {n f : Str} (i : Nat) (C : CExc X.K a oe T x DD d)
    (hN : X.N[i]? = some n := by rfl) (hv : Vis X.env.scope n := by first | exact Or.inl rfl | exact Or.inr (Or.inl rfl) | exact Or.inr (Or.inr rfl)) (hd : (n == ("__debug__" : Str)) = false := by decide) (hcd : (n == ("__classdict__" : Str)) = false := by decide)
    (hb : attributeBase (.Name n p1) f X.env (eval (.Name n p1) X.env) = eval (.Name n p1) X.env := by rfl) :
    EV (X.suite a ((a, oe) :: pn)) T (.Attribute (.Name n p1) f pos) (eFldE a i f x.fld) := by
  have fl := C.fl
  have none_ok : (∀ e, eFldE a i f x.fld e = none) → EV (X.suite a ((a, oe) :: pn)) T (.Attribute (.Name n p1) f pos) (eFldE a i f x.fld) := fun h => ⟨fun _ _ _ => False, ⟨fun _ _ _ _ _ _ z => z.elim⟩, fun env o env' hf => by
    rw [h] at hf
    cases hf⟩
  cases hx : x.fld with
  | none =>
    rw [hx] at none_ok
    refine none_ok fun e => ?_
    unfold eFldE
    split
    · split <;> rfl
    · rfl
  | some q =>
    obtain ⟨g, y⟩ := q
    rw [hx] at fl none_ok
    by_cases hg : g = f
    · subst hg
      obtain ⟨dx, w, rfl, e2, hw, hno⟩ := fl
      refine ⟨_, pe_xf ⟨C.ec.hg, C.ec.hk, C.ec.hs, C.ec.hd⟩ hno C.hz C.hf (pe_var (i := i) hN hv hd hcd) hb, fun env o env' hf G σ H L Lx hR hS Q hQ => ?_⟩
      unfold eFldE at hf
      split at hf
      · rename_i a' es
        split at hf
        · rename_i ea
          simp only [if_true] at hf
          cases hf
          obtain ⟨v, c', h1, h2, h3⟩ := rel_get hR es
          obtain ⟨b, hb1, rfl⟩ := rf_of h2
          have hab : b = a := Int.ofNat.inj (hb1.symm.trans ea)
          subst hab
          refine ⟨.ref b, h1, rfl, rfl, dx, [(g, w)], w, rfl, hS.same _ _ (hS.kn _ e2).1, ?_, hQ G w H L [] (.refl _) (.d (hw G)) hR hS⟩
          simp
        · cases hf
      · cases hf
    · refine none_ok fun e => ?_
      unfold eFldE
      split
      · split
        · show (if g = f then some (O.d y, e) else none) = none
          rw [if_neg hg]
        · rfl
      · rfl
end
/-- data without a place -/
def flatD : D → Bool
  | .none => true
  | .int _ => true
  | .bool _ => true
  | .str _ => true
  | _ => false
theorem flat_dq {K : PySem.W.Frag} {G : Hp} {w : V} {y : D} (h : Dq K G w y) (hf : flatD y = true) : ∀ G', Dq K G' w y := fun G' => by
  cases h with
  | non => exact .non
  | bl b => exact .bl b
  | int i => exact .int i
  | str x => exact .str x
  | _ => cases hf
/-- with one thing more known -/
theorem Sep.know {T : TabsT} {G H : Hp} {L : List Cell} (S : Sep T G H L) {p : Addr} {fs : List (Str × V)} (h : G p = some (.xd fs)) : Sep (T.1, (p, .xd fs) :: T.2) G H L :=
  ⟨S.nd, S.at_, S.same, S.tab, S.uq, fun q hq => by
    rcases List.mem_cons.mp hq with e | hq
    · subst e
      exact ⟨h, fun o u z => by cases z⟩
    · exact S.kn q hq, S.nt⟩
theorem Sep.forget {T T' : TabsT} {G H : Hp} {L : List Cell} (S : Sep T' G H L) (h1 : T'.1 = T.1) (h2 : ∀ p ∈ T.2, p ∈ T'.2) : Sep T G H L :=
  ⟨S.nd, S.at_, S.same, by rw [← h1]; exact S.tab, by rw [← h1]; exact S.uq, fun q hq => S.kn q (h2 q hq), S.nt⟩
/-! ### the clause of a def that tells -/
/-- the except suite, whatever is caught -/
def tsAll (Z : Cx) (suite : List Stmt) (a : Addr) (cls : Value) (d : Option Addr) : TS := fun D σ H => ∀ (oe : Obj) (pn pins : List (Addr × Obj)) (s : Shared), Zc cls d oe → (∃ vs, oe.data = .fields vs) → Inv (Z.suite a ((a, oe) :: pn)) pins σ H s →
  wpAny (model Z.prog Z.w) (Z.suite a ((a, oe) :: pn)).A (execs suite Z.env) (SP (Z.suite a ((a, oe) :: pn)) pins D) (Z.suite a ((a, oe) :: pn)).xe s
/-- what is told of what is raised: o of x -/
structure Tells (K : PySem.W.Frag) (mg : Str → Option Value) (T : TabsT) (Z : Cx) (CS : Addr) (i : Nat) (suite : List Stmt) (x : Xn) (o : O) : Prop where
  ex : ∃ (D : Addr) (fS : Addr → Sx), mg x.cls = some (.ref D) ∧ PySem.W.exmOne K (.ref D) (.ref CS) = some true ∧ excB K D = true ∧ (match x.fld with
    | none => True
    | some (f, y) => flatD y = true ∧ PySem.W.findIn K (.ref D) f = some none) ∧
    (∀ (a : Addr) (oe : Obj) (d : Option Addr) (pn : List (Addr × Obj)) (T' : TabsT), CExc K a oe T' x D d → SVs (Z.suite a ((a, oe) :: pn)) T' (fun _ => false) suite (fS a)) ∧
    ∀ a : Addr, ∃ e', fS a ((List.replicate Z.N.length none).set i (some (.d (rfD a)))) = some (.rt o e')
/-- what the exception has to be -/
def EchT (K : PySem.W.Frag) (mg : Str → Option Value) (T : TabsT) (Z : Cx) (CS : Addr) (i : Nat) (suite : List Stmt) (Q : VK) : XK := fun cls d H' => ∃ (G' : Hp) (La : List Cell) (x : Xn) (o : O), Tells K mg T Z CS i suite x o ∧ Sep T G' H' La ∧ ExnR K mg G' H' x cls d ∧
  ∀ (G2 : Hp) (v : V) (H2 : Hp) (Lo : List Cell), Same G' G2 → OT K G2 o v Lo → Sep T G2 H2 (Lo ++ La) → Q v H2
theorem tells_was {K : PySem.W.Frag} {mg : Str → Option Value} {T : TabsT} {Z : Cx} {CS : Addr} {i : Nat} {suite : List Stmt} {Q : VK} (hK : Z.K = K) (hi : i < Z.N.length) {cls : Value} {d : Option Addr} {σ' : St} {H' : Hp} {D : Ends} (hD : ∀ v H2, Q v H2 → D.rt v H2)
    (h : EchT K mg T Z CS i suite Q cls d H') : wAs Z.K (.ref CS) i (tsAll Z suite) (fun _ _ _ _ => False) D cls d σ' H' := by
  subst hK
  obtain ⟨G', La, x, o, ⟨DD, fS, h1, h2, h3, h4, h5, h6⟩, S, ⟨hx1, hx2⟩, hq⟩ := h
  rw [h1] at hx1
  cases hx1
  refine ⟨true, h2, fun _ a ha => ?_, fun z => by cases z⟩
  intro oe pn pins s hz hf I
  have hlen : σ'.length = Z.N.length := by
    have := I.len
    simpa using this
  obtain ⟨e', hrun⟩ := h6 a
  have R0 : RelS Z.K G' (List.replicate Z.N.length none) (σ'.set i (some (.ref a))) [] := rel_nones _ _ (by simpa using hlen)
  have hσ : (σ'.set i (some (V.ref a)))[i]? = some (some (V.ref a)) := by rw [List.getElem?_set_self (by omega)]
  have hs0 : slot (List.replicate Z.N.length (none : Option O)) i = none := by
    unfold slot
    rw [List.getElem?_replicate]
    split <;> rfl
  obtain ⟨L1, R1, p1⟩ := rel_put_at (o := .d (rfD a)) (c := []) R0 hs0 hσ (.d .rf)
  have hL1 : L1 = [] := by simpa using p1
  subst hL1
  have go : ∀ (T' : TabsT), T'.1 = T.1 → (∀ p ∈ T.2, p ∈ T'.2) → Sep T' G' H' La → CExc Z.K a oe T' x DD d → wpAny (model Z.prog Z.w) (Z.suite a ((a, oe) :: pn)).A (execs suite Z.env)
      (SP (Z.suite a ((a, oe) :: pn)) pins { nx := fun σ' H' => D.nx (σ'.set i none) H', rt := D.rt, bk := fun σ' H' => D.bk (σ'.set i none) H', ct := fun σ' H' => D.ct (σ'.set i none) H' }) (Z.suite a ((a, oe) :: pn)).xe s := fun T' q1 q2 S' C => by
    obtain ⟨t, p, hh⟩ := h5 a oe d pn T' C
    refine p.run pins s _ H' _ I (hh _ _ hrun G' _ H' [] La R1 S' _ ?_)
    intro G2 v σ2 H2 L2 Lo s2 k2 ot R2 S2
    exact hD _ _ (hq G2 v H2 Lo s2 ot ((S2.forget q1 q2).sub (Sub.left .drop)))
  cases hfl : x.fld with
  | none =>
    rw [hfl] at hx2
    exact go T rfl (fun _ z => z) S ⟨hz, hf, excC_of h3, by rw [hfl]; exact hx2⟩
  | some q =>
    obtain ⟨f, y⟩ := q
    rw [hfl] at hx2 h4
    obtain ⟨dx, w, rfl, e2, e3⟩ := hx2
    exact go (T.1, (dx, .xd [(f, w)]) :: T.2) rfl (fun _ z => List.mem_cons_of_mem _ z) (S.know e2) ⟨hz, hf, excC_of h3, by rw [hfl]; exact ⟨dx, w, rfl, List.mem_cons_self, flat_dq e3 h4.1, h4.2⟩⟩
/-! ### the lambda is made -/
section
variable {X : Cx} {pins : List (Addr × Obj)} {σ : L2.St} {H : Hp} {s : Shared}
theorem lam_new {q : Str} {c P : Addr} {params : Arguments} {body : Expr} {scope : Scope} {pos : Pos} {E : Value → Shared → Prop} {Q : Value → Shared → Prop} (I : Inv X pins σ H s) (TB : LamX.TabB X.base X.mg c P) (hcode : X.env.code = .ref c)
    (hq : q = X.env.qual ++ "<lambda>") (hT : LamX.TabS H P q) (hdef : defaultsOf params X.env = ([], [])) (hfree : ∀ y ∈ scope.names, y.2 = .free → ∃ c, X.env.cells.lookup y.1 = some c)
    (h : ∀ (f c' : Addr) (pm ctv : Value) (H1 : Hp) (s' : Shared), Inv X pins σ H1 s' → (∀ b o, H b = some o → b ≠ P → H1 b = some o) → LamX.TabS H1 P q →
      s'.heap.get? f = some (PySem.W.kla_obj "<lambda>" q params body scope (cloFrom X.env.cells scope.names []) pm c' ctv) → H1 f = none → f ∉ frs X.stack → H1 c' = some (LamX.CodeO c' q) → Q (.ref f) s') : wpAny (model X.prog X.w) X.A (eval (.Lambda params body scope pos) X.env) Q E s := by
  subst hq
  obtain ⟨ps, tP, ht, ha⟩ := hT
  refine PySem.W.kla_eval hdef ?_
  have oP : s.heap.get? P = some { cls := .none, data := .fields ps } := I.hok P _ tP
  have off : ∀ f, s.heap.objs.size ≤ f → f ∉ frs X.stack := fun f hf z => (List.mem_cons.mp (I.stkSub _ z)).elim (fun e => by
    have l := I.lt
    rw [← e] at l
    exact absurd (Nat.lt_of_lt_of_le l hf) (Nat.lt_irrefl _)) fun e => I.nofs hf e
  cases hc : codeAmong pos ps.toList with
  | some cv =>
    obtain ⟨c', rfl, hco⟩ := ha pos cv hc
    refine PySem.W.kla_makeFunctionHit (mg := X.mg) (c := c) (P := P) (ps := ps) (closure_ok hfree) I.ok.glob (I.mod.glob.keeps I.bk) hcode (TB.code.keeps I.bk) oP ht hc (TB.bm.keeps I.bk) fun ctv h' tk hx hsz => ?_
    exact h h'.objs.size c' ((X.mg "__name__").getD .none) ctv H _ (I.kept (t' := tk) fun b o e => Heap.get?_push_of_some _ (hx b o e)) (fun b o e _ => e) ⟨ps, tP, ht, ha⟩ (Heap.get?_push_size _ rfl) (I.hok.fresh hsz) (off _ hsz) hco
  | none =>
    refine PySem.W.kla_makeFunction (mg := X.mg) (c := c) (P := P) (ps := ps) (closure_ok hfree) I.ok.glob (I.mod.glob.keeps I.bk) hcode (TB.code.keeps I.bk) oP ht hc TB.gP (TB.bm.keeps I.bk) fun c' ctv h' tk hx hge hlt hrec htb => ?_
    obtain ⟨c2, oc, vs, t, e2, hoc, hd, hv⟩ := hrec
    cases e2
    have nC : H c' = none := I.hok.fresh hge
    have nPc : P ≠ c' := ne_of_none tP nC
    have J := LamX.inv_table (q := X.env.qual ++ "<lambda>") (t' := tk) (more := #[rawInt pos.line, rawInt pos.col, .ref c']) (h' := h'.push (PySem.W.kla_obj "<lambda>" (X.env.qual ++ "<lambda>") params body scope (cloFrom X.env.cells scope.names []) ((X.mg "__name__").getD .none) c' ctv)) I tP
      (fun b o hb e => Heap.get?_push_of_some _ (hx b o hb e)) (Heap.get?_push_of_some _ htb) hge ⟨oc, vs, t, Heap.get?_push_of_some _ hoc, hd, hv⟩
    have keep : ∀ b o, H b = some o → b ≠ P → upd (upd H P (.tbl (ps ++ #[rawInt pos.line, rawInt pos.col, .ref c']))) c' (LamX.CodeO c' (X.env.qual ++ "<lambda>")) b = some o := fun b o e n => by
      rw [upd_ne (ne_of_none e nC), upd_ne n]
      exact e
    have eL : (ps ++ #[rawInt pos.line, rawInt pos.col, .ref c']).toList = ps.toList ++ [rawInt pos.line, rawInt pos.col, .ref c'] := by simp
    refine h h'.objs.size c' ((X.mg "__name__").getD .none) ctv _ _ J keep ⟨_, by rw [upd_ne nPc, upd_same], by rw [eL]; exact PySem.TriplesOk_snoc _ _ _ _ ht, fun p' cv hcv => ?_⟩ (Heap.get?_push_size _ rfl) ?_ (off _ (Nat.le_trans hge (Nat.le_of_lt hlt))) upd_same
    · rw [eL] at hcv
      rcases LamX.among_app _ ht hcv with z | z
      · obtain ⟨c0, e1, e2⟩ := ha p' cv z
        refine ⟨c0, e1, keep _ _ e2 fun z => ?_⟩
        rw [z, tP] at e2
        exact LamX.codeO_ne ps (Option.some.inj e2).symm
      · exact ⟨c', z, upd_same⟩
    · rw [upd_ne (Nat.ne_of_gt hlt), upd_ne (Nat.ne_of_gt (Nat.lt_of_lt_of_le (Heap.lt_size oP) (Nat.le_trans hge (Nat.le_of_lt hlt))))]
      exact I.hok.fresh (Nat.le_trans hge (Nat.le_of_lt hlt))
end
/-- x(lambda: body), the tables of others kept -/
def tLamS (P : Addr) (q : Str) (TT : (XK → Hp → VK → Prop) → Hp → VK → Prop) (t : XK → TE) : TE := fun σ H Q => LamX.TabS H P q ∧ ∀ H1, (∀ b o, H b = some o → b ≠ P → H1 b = some o) → LamX.TabS H1 P q → TT (fun E H' Q' => t E σ H' Q') H1 Q
section
variable {X : Cx}
theorem pe_lamS {TT : (XK → Hp → VK → Prop) → Hp → VK → Prop} {x a q : Str} {g c P : Addr} {k : Nat} {pg : Arguments} {bg : List Stmt} {sg : Scope} {dV kV doc pm cdv ct oc : Value} {an od : Option Addr} {osl : Array (Option Value)} {Ng : List Str}
    {params : Arguments} {body : Expr} {scope : Scope} {t : XK → TE} {p lpos pos : Pos} (hq : q = X.env.qual ++ "<lambda>") (hg : Gl X x) (hm : X.mg x = some (.ref g)) (hk : PySem.W.keepIn X.K (.ref g) = true)
    (lk : X.K.lookup g = some ⟨oc, od, .func (PySem.W.fnOf x x pg bg sg dV kV doc pm an cdv ct), osl⟩) (hcg : PySem.W.codeIn X.K cdv x = true) (hb : L2.Binds X.K (PySem.W.fnOf x x pg bg sg dV kV doc pm an cdv ct) [a] []) (Sg : FnScope Ng [a] sg) (hNg : Ng[0]? = some a) (hva : Vis sg a)
    (hG : LamX.GivesTo X Ng x sg g cdv bg a q TT) (TB : LamX.TabB X.base X.mg c P) (hcode : X.env.code = .ref c) (hr : Room (k + 2) X.A) (L : LamX.LamS X.env.scope scope) (hdef : defaultsOf params X.env = ([], []))
    (hbind : ∀ (q : Str) (cl : List (Str × Addr)) (pm cv ctv : Value), bindArgs (PySem.W.kla_fn "<lambda>" q params body scope cl pm cv ctv) ⟨[], []⟩ = pure [])
    (hbody : ∀ (A : Around) (outer : List Env) (s : Shared) (H : Hp) (E : XK) (f c' : Addr), Room k (A.deeper (LamX.lamEnv X scope s.heap.objs.size f c')) → PE (LamX.lamCx X A outer s H E scope f c') body (t E))
    (hdb : (x == ("__debug__" : Str)) = false := by decide) (hd : (a == ("__debug__" : Str)) = false := by decide) (hcd : (a == ("__classdict__" : Str)) = false := by decide) :
    PE X (.Call (.Name x p) [.Lambda params body scope lpos] [] pos) (tLamS P q TT t) := by
  subst hq
  refine ⟨fun pins s σ H Q I ⟨hT, h⟩ => ?_⟩
  refine wpAny_Call_Name_kw (ld_glob I hg hm (PySem.W.callWith_K (h₀ := X.base) I.ok.mod.kin hk ?_ (by rfl) (by rfl)) hdb)
  show wpAny _ _ (spliced ((false, eval (.Lambda params body scope lpos) X.env) :: backTo pos (starEach [] X.env))) _ _ s
  refine Calls.spliced_cons (lam_new I TB hcode rfl hT hdef (L.has I.ok) fun f c' pm' ctv H1 s' I1 eN T1 hf hfn hfr hco => Calls.spliced_nil ⟨I1.kIn, ?_⟩)
  have rc : codeAny (model X.prog X.w) X.A (.call (.ref g) ⟨[.ref f], []⟩) (CR C8.CX0 X.stack X.prog X.w H1 s' Q C8.E0) s' :=
    LamX.run_ofS (N := Ng) (ps := [a]) (us := [.ref f]) (vs := [.ref f]) lk hcg Sg hr I1.env0 (hb s' [.ref f] I1.kIn rfl) (.cons rfl .nil) rfl fun hr' => by
      obtain ⟨t', ht', hq'⟩ := hG f c' s' H1 Q (fun E H' Q' => t E σ H' Q') (fun W pn xe E p1 p2 tk hW => LamX.pe_act (i := 0) I1 L hf hfn hfr (hbind _ _ _ _ _) tk hW hr' (fun A outer s H hr2 => hbody A outer s H E f c' hr2) hNg hva hd hcd) hco (h H1 eN T1)
      exact ⟨t', ht'.nox, hq'⟩
  refine wpAny_call (codeAny_mono rc fun r s2 hq => ?_)
  cases r with
  | error e => exact (show False from hq).elim
  | ok fl => cases fl <;> first | exact I1.after hq | exact False.elim hq
end
end Sh

/-! Shift layer: what an except suite needs (there is less room known there); calls of a def that tells. -/
namespace Sh
open PySem PySem.Spec PyProof.Rows L2
section
variable {X : Cx} {T : TabsT} {a b : Expr}
theorem c2_eqU (hu : X.A.units + 66 < cLine) : Cmp2 X T .Eq gEq := by
  intro G H L x y k vx vy cx cy ox oy mx my S e
  unfold gEq at e
  obtain ⟨a, ea, e⟩ := bind_eq e
  obtain ⟨b, eb, e⟩ := bind_eq e
  split at e
  · rename_i hs
    cases e
    exact ⟨_, op_eqD (by omega), fun Q q => ⟨a, b, (dat_of ox mx S ea).dp (noD_shaped hs.1), (dat_of oy my S eb).dp (noD_shaped hs.2), hs.1, hs.2, q⟩⟩
  · cases e
theorem c2_inU (hu : X.A.units + 66 < cLine) : Cmp2 X T .In gIn := by
  intro G H L x y k vx vy cx cy ox oy mx my S e
  unfold gIn at e
  split at e
  · obtain ⟨a, ea, e⟩ := bind_eq e
    split at e
    · rename_i hs
      cases e
      cases oy with
      | d oy => exact ⟨_, op_inTup (by omega), fun Q q => ⟨a, _, (dat_of ox mx S ea).dp (noD_plain a hs.1), (dp_mono S.same _ _ oy).dp (by rw [noD]; exact noDs_plain _ hs.2.1), hs.1, hs.2.1, hs.2.2, q⟩⟩
    · cases e
  · obtain ⟨a, ea, e⟩ := bind_eq e
    obtain ⟨b, eb, e⟩ := bind_eq e
    split at e
    · rename_i hs
      cases e
      obtain ⟨p, vs, rfl, hp, hq⟩ := lst_of oy my S eb
      exact ⟨_, op_inD (by omega), fun Q q => ⟨a, b, (dat_of ox mx S ea).dp (noD_shaped hs.1), .lst hp ((dps_mono S.same _ _ hq).dp (by have := noD_shaped hs.2; rw [noD] at this; exact this)), hs.1, hs.2, q⟩⟩
    · cases e
/-- xs.count(x) -/
def rCntD (K : PySem.W.Frag) : V → List V → Hp → VK → Prop := fun x xs H Q => ∃ (l : Addr) (y : V) (d : D) (ds : List D), x = .ref l ∧ xs = [y] ∧ Dp K H (.ref l) (.list ds) ∧ Dp K H y d ∧ PyData.plainAll ds = true ∧ d.plain = true ∧ d.depth ≤ 64 ∧ Q (.int ((ds.countP fun z => PyData.eqv z d : Nat) : Int)) H
theorem mt_countD (hu : X.A.units + 66 < cLine) : MtR X "list.count" (rCntD X.K) := by
  intro pins s σ H x xs v us Q I rx rxs h
  obtain ⟨l, y, d, ds, rfl, rfl, hl, hy, p1, p2, p3, q⟩ := h
  cases rx
  cases rxs with
  | cons ry rr =>
    cases rr
    obtain ⟨as, ra⟩ := Dp.reads I _ _ _ hl rfl
    obtain ⟨bs, rb⟩ := Dp.reads I _ _ _ hy ry
    cases ra with
    | list e1 e2 e3 e4 => exact PySem.SeqAt.count_list_data ⟨_, e1, e2, _, e3⟩ e4 rb p1 p2 (by omega) ⟨.int _, H, I.tok _, ⟨_, rfl⟩, q⟩
def eCnt (a : ExP) (b : Ex) : Ex := fun e => (a e).bind fun p => (res p.2 p.1).bind fun x0 => (oLst x0).bind fun _ => (b p.2).bind fun q => (res q.2 p.1).bind fun x => (oLst x).bind fun ds => (oDat q.1).bind fun d =>
  if PyData.plainAll ds = true ∧ d.plain = true ∧ d.depth ≤ 64 then some (.d (.int ((ds.countP fun z => PyData.eqv z d : Nat) : Int)), q.2) else none
theorem ev_countU {p2 p3 : Pos} {fa : ExP} {fb : Ex} (hu : X.A.units + 66 < cLine) (ha : OV X T a fa) (hb : EV X T b fb)
    (hs : starEach [b] X.env = (false, eval b X.env) :: starEach [] X.env := by rfl)
    (hp : ∀ {to : TE} {t : TA}, MtR X "list.count" (rCntD X.K) → PE X a to → PA X [b] t → PE X (.Call (.Attribute a "count" p2) [b] [] p3) (tBM X.K "list" (rCntD X.K) to t) := by exact fun h0 h1 h2 => pe_bm PySem.F.plainAttrs_list PySem.F.slot_list_count PySem.F.type_list_count h0 h1 h2) :
    EV X T (.Call (.Attribute a "count" p2) [b] [] p3) (eCnt fa fb) := by
  obtain ⟨ta, pa, ha⟩ := ha
  obtain ⟨tb, pb, hb⟩ := hb
  refine ⟨_, hp (mt_countD hu) pa (pa_cons pb pa_nil hs), fun env o env' hf G σ H L Lx hR hS Q hQ => ?_⟩
  unfold eCnt at hf
  obtain ⟨⟨r1, env1⟩, e1, hf⟩ := bind_eq hf
  obtain ⟨o1, e2, hf⟩ := bind_eq hf
  obtain ⟨xs0, e3, hf⟩ := bind_eq hf
  obtain ⟨⟨o2, env2⟩, e4, hf⟩ := bind_eq hf
  obtain ⟨x, e5, hf⟩ := bind_eq hf
  obtain ⟨xs, e6, hf⟩ := bind_eq hf
  obtain ⟨dy, e7, hf⟩ := bind_eq hf
  split at hf
  · rename_i hsh
    cases hf
    refine ha env r1 env1 e1 G σ H L Lx hR hS _ fun G1 v1 H1 L1 Lo1 s1 w1 R1 S1 => ?_
    obtain ⟨cx, ox, mx⟩ := res_of w1 R1 e2
    obtain ⟨p, vs, rfl, hpq, _⟩ := lst_of ox (fun c hc => (List.mem_append.mp (mx c hc)).elim (fun q => List.mem_append_left _ q) fun q => List.mem_append_right _ (List.mem_append_left _ q)) S1 e3
    refine ⟨.inl ⟨rfl, vs, hpq⟩, ?_⟩
    refine hb env1 o2 env2 e4 G1 σ H1 L1 (Lo1 ++ Lx) R1 S1.comm3 _ fun G2 v2 H2 L2 Lo2 s2 ot2 R2 S2 => ?_
    obtain ⟨cx2, ox2, mx2⟩ := res_of (w1.mono s2) R2 e5
    have d1 := dat_of ox2 (fun c hc => by
      rcases List.mem_append.mp (mx2 c hc) with q | q
      · exact List.mem_append_right _ (List.mem_append_right _ (List.mem_append_left _ q))
      · exact List.mem_append_right _ (List.mem_append_left _ q)) S2 (dat_lst e6)
    have d2 := dat_of ot2 (fun c hc => List.mem_append_left _ hc) S2 e7
    refine ⟨p, v2, dy, xs, rfl, rfl, d1.dp (by rw [noD]; exact noDs_plain _ hsh.1), d2.dp (noD_plain _ hsh.2.1), hsh.1, hsh.2.1, hsh.2.2, ?_⟩
    exact hQ G2 (.int _) H2 L2 [] (s1.trans s2) (.d (.int _)) R2 (S2.sub (sub_tail2 (E := [])))
  · cases hf
theorem ev_never {e : Expr} : EV X T e (fun _ => none) := ⟨fun _ _ _ => False, ⟨fun _ _ _ _ _ _ z => z.elim⟩, fun env o env' hf => by cases hf⟩
end
/-! ### a def that tells -/
/-- what the exception has to be, whatever the def's entry -/
def EchA (K : PySem.W.Frag) (mg : Str → Option Value) (T : TabsT) (Zf : Shared → Hp → Cx) (CS : Addr) (i : Nat) (suite : List Stmt) (Q : VK) : XK := fun cls d H' => ∃ (G' : Hp) (La : List Cell) (x : Xn) (o : O), (∀ s H, Tells K mg T (Zf s H) CS i suite x o) ∧ Sep T G' H' La ∧ ExnR K mg G' H' x cls d ∧
  ∀ (G2 : Hp) (v : V) (H2 : Hp) (Lo : List Cell), Same G' G2 → OT K G2 o v Lo → Sep T G2 H2 (Lo ++ La) → Q v H2
/-- the context of a def that is called with a lambda -/
abbrev toldZ (X : Cx) (Ng : List Str) (x : Str) (sg : Scope) (g : Addr) (cdg : Value) : Shared → Hp → Cx := fun s H => (cxOf C8.CX0 X.prog X.w X.K X.mg X.base Ng x sg g cdg X.A X.stack s H C8.E0).nox
section
variable {X : Cx} {T : TabsT}
/-- try: return a() / except x as n: .. -/
theorem told_ret {Ng : List Str} {x a e n q : Str} {sg : Scope} {g CS : Addr} {cdg : Value} {i : Nat} {b₀ : Stmt} {suite : List Stmt} {p1 p2 p3 p4 p7 p8 : Pos} (hNd : Ng.Nodup) (hi : Ng[i]? = some n) (hn : sg.names.lookup n = some .local)
    (hge : sg.names.lookup e = some .globalImplicit) (hme : X.mg e = some (.ref CS)) (hde : (e == ("__debug__" : Str)) = false) (h0 : ∀ f : Addr, (L2.start Ng [V.ref f])[0]? = some (some (V.ref f))) :
    LamX.GivesTo X Ng x sg g cdg [.Try [.Return (some (.Call (.Name a p1) [] [] p2)) p3] [.ExceptHandler (some (.Name e p4)) (some n) (b₀ :: suite) p7] [] [] p8] a q
      (fun tl H Q => tl (EchA X.K X.mg T (toldZ X Ng x sg g cdg) CS i (b₀ :: suite) Q) H Q) := by
  intro f c' s H Q tl act hc h
  have hgl : Gl (toldZ X Ng x sg g cdg s H) e := hge
  have hlt : i < Ng.length := (List.getElem?_eq_some_iff.mp hi).1
  refine ⟨_, pss_one (ps_try_as (X := toldZ X Ng x sg g cdg s H) (c := .ref CS) (i := i) (tb := fun W D σ H => ∃ Ech : XK, (∀ cls d σ' H', Ech cls d H' → W cls d σ' H') ∧ σ[0]? = some (some (.ref f)) ∧ H c' = some (LamX.CodeO c' q) ∧ tl Ech H D.rt)
      (ts := tsAll (toldZ X Ng x sg g cdg s H) (b₀ :: suite)) rfl rfl hNd hi hn ⟨hgl, hde, .inl hme⟩ LamX.takes0 (fun W pn xe tk _ => ?_) (fun a oe cls d pn hz hf => ⟨fun pins s σ H D I h => h oe pn pins s hz hf I⟩)), ?_⟩
  · refine ⟨fun pins s' σ H' D I ⟨Ech, hW, h1, h2, h3⟩ => ?_⟩
    exact (pss_one (ps_ret (pos := p3) (act W pn xe Ech p1 p2 tk hW))).run pins s' σ H' D I ⟨h1, h2, h3⟩
  · exact ⟨EchA X.K X.mg T (toldZ X Ng x sg g cdg) CS i (b₀ :: suite) Q, fun cls d σ' H' ⟨G', La, y, o, z1, z2⟩ => tells_was (Z := toldZ X Ng x sg g cdg s H) (K := X.K) (mg := X.mg) (T := T) (CS := CS) (i := i) (suite := b₀ :: suite) (Q := Q) rfl hlt (fun v H2 z => z) ⟨G', La, y, o, z1 s H, z2⟩, h0 f, hc, h⟩
/-- try: a() / except x as n: .. / return None -/
theorem told_exp {Ng : List Str} {x a e n q : Str} {sg : Scope} {g CS : Addr} {cdg : Value} {i j : Nat} {b₀ : Stmt} {suite : List Stmt} {p1 p2 p3 p4 p7 p8 p9 p10 : Pos} (hNd : Ng.Nodup) (hi : Ng[i]? = some n) (hn : sg.names.lookup n = some .local)
    (hge : sg.names.lookup e = some .globalImplicit) (hme : X.mg e = some (.ref CS)) (hde : (e == ("__debug__" : Str)) = false) (h0 : ∀ f : Addr, (L2.start Ng [V.ref f])[0]? = some (some (V.ref f)))
    (hsw : ∀ X : Cx, X.env.scope = sg → swapsWith (.Call (.Name a p1) [] [] p2) none p3.line X.env = pure false) :
    LamX.GivesTo X Ng x sg g cdg [.Try [.Expr (.Call (.Name a p1) [] [] p2) p3] [.ExceptHandler (some (.Name e p4)) (some n) (b₀ :: suite) p7] [] [] p8, .Return (some (.Constant .none j p9)) p10] a q
      (fun tl H Q => tl (EchA X.K X.mg T (toldZ X Ng x sg g cdg) CS i (b₀ :: suite) Q) H (fun _ H' => Q .non H')) := by
  intro f c' s H Q tl act hc h
  have hgl : Gl (toldZ X Ng x sg g cdg s H) e := hge
  have hlt : i < Ng.length := (List.getElem?_eq_some_iff.mp hi).1
  refine ⟨_, pss_cons (ps_try_as (X := toldZ X Ng x sg g cdg s H) (c := .ref CS) (i := i) (tb := fun W D σ H => ∃ Ech : XK, (∀ cls d σ' H', Ech cls d H' → W cls d σ' H') ∧ σ[0]? = some (some (.ref f)) ∧ H c' = some (LamX.CodeO c' q) ∧ tl Ech H (fun _ H1 => D.nx σ H1))
      (ts := tsAll (toldZ X Ng x sg g cdg s H) (b₀ :: suite)) rfl rfl hNd hi hn ⟨hgl, hde, .inl hme⟩ LamX.takes0 (fun W pn xe tk _ => ?_) (fun a oe cls d pn hz hf => ⟨fun pins s σ H D I h => h oe pn pins s hz hf I⟩)) (pss_one (ps_ret pe_non)), ?_⟩
  · refine ⟨fun pins s' σ H' D I ⟨Ech, hW, h1, h2, h3⟩ => ?_⟩
    exact (pss_one (ps_expr (pos := p3) (act W pn xe Ech p1 p2 tk hW) (hsw _ rfl))).run pins s' σ H' D I ⟨h1, h2, h3⟩
  · exact ⟨EchA X.K X.mg T (toldZ X Ng x sg g cdg) CS i (b₀ :: suite) Q, fun cls d σ' H' ⟨G', La, y, o, z1, z2⟩ => tells_was (Z := toldZ X Ng x sg g cdg s H) (K := X.K) (mg := X.mg) (T := T) (CS := CS) (i := i) (suite := b₀ :: suite) (Q := Q) rfl hlt (fun v H2 z => z) ⟨G', La, y, o, z1 s H, z2⟩, h0 f, hc, h⟩
/-- the lambda's table changed -/
theorem sep_lam {P : Addr} {q : Str} {G H H1 : Hp} {L : List Cell} (S : Sep T G H L) (hP : (P, some q) ∈ T.1) (k : ∀ b o, H b = some o → b ≠ P → H1 b = some o) (t : LamX.TabS H1 P q) : Sep T G H1 L := by
  obtain ⟨⟨ps, hps, _⟩, gP, lP⟩ := S.tab _ hP
  refine ⟨S.nd, fun c hc => ⟨k _ _ (S.at_ c hc).1 (lP c hc), (S.at_ c hc).2⟩, fun b x e => k _ _ (S.same _ _ e) (fun z => ?_), fun P' hP' => ⟨?_, (S.tab P' hP').2⟩, S.uq, S.kn, S.nt⟩
  · have gP : G P = none := gP
    rw [z, gP] at e
    cases e
  · by_cases h : P'.1 = P
    · rw [S.uq P' hP' (P, some q) hP h]
      exact t
    · have g := (S.tab P' hP').1
      obtain ⟨P', q'⟩ := P'
      cases q' with
      | none =>
        obtain ⟨ps', a, b⟩ := g
        exact ⟨ps', k _ _ a h, b⟩
      | some q' =>
        obtain ⟨ps', h1, h2, h3⟩ := g
        refine ⟨ps', k _ _ h1 h, h2, fun pos cv hc => ?_⟩
        obtain ⟨c, e1, e2⟩ := h3 pos cv hc
        refine ⟨c, e1, k _ _ e2 fun z => ?_⟩
        rw [z, hps] at e2
        exact LamX.codeO_ne ps (Option.some.inj e2).symm
/-- told(lambda: ..): keep: what the lambda gives is handed on -/
@[simp] def eTold (keep : Bool) (Cl : Xn → Option O) (fb : XEx) : Ex := fun e => (fb e).bind fun r => match r with
  | .ok o e1 => some (if keep = true then o else .d .none, e1)
  | .ex x e1 => (Cl x).bind fun o => some (o, e1)
theorem ev_told {x a q : Str} {g c P CS : Addr} {k i : Nat} {pg : Arguments} {bg : List Stmt} {sg : Scope} {dV kV doc pm cdv ct oc : Value} {an od : Option Addr} {osl : Array (Option Value)} {Ng : List Str}
    {params : Arguments} {body : Expr} {scope : Scope} {p lpos pos : Pos} {suite : List Stmt} (keep : Bool) {Cl : Xn → Option O} {fb : XEx} (hr : Room (k + 2) X.A) (hm : X.mg x = some (.ref g)) (hk : PySem.W.keepIn X.K (.ref g) = true)
    (lk : X.K.lookup g = some ⟨oc, od, .func (PySem.W.fnOf x x pg bg sg dV kV doc pm an cdv ct), osl⟩) (hcg : PySem.W.codeIn X.K cdv x = true) (hb : L2.Binds X.K (PySem.W.fnOf x x pg bg sg dV kV doc pm an cdv ct) [a] []) (Sg : FnScope Ng [a] sg) (hNg : Ng[0]? = some a) (hva : Vis sg a)
    (hG : LamX.GivesTo X Ng x sg g cdv bg a q (fun tl H Q => tl (EchA X.K X.mg T (toldZ X Ng x sg g cdv) CS i suite Q) H (if keep = true then Q else fun _ H' => Q .non H')))
    (hCl : ∀ y o, Cl y = some o → ∀ s H, Tells X.K X.mg T (toldZ X Ng x sg g cdv s H) CS i suite y o)
    (TB : LamX.TabB X.base X.mg c P) (hcode : X.env.code = .ref c) (hP : (P, some q) ∈ T.1)
    (hbody : ∀ (A : Around) (outer : List Env) (s : Shared) (H : Hp) (E : XK) (f c' : Addr), Room k (A.deeper (LamX.lamEnv X scope s.heap.objs.size f c')) → XV (LamX.lamCx X A outer s H E scope f c') T body fb)
    (hq : q = X.env.qual ++ "<lambda>" := by rfl) (hL : LamX.lamSB X.env.scope scope = true := by decide +kernel) (hg : Gl X x := by rfl) (hdef : defaultsOf params X.env = ([], []) := by rfl)
    (hbind : ∀ (q : Str) (cl : List (Str × Addr)) (pm cv ctv : Value), bindArgs (PySem.W.kla_fn "<lambda>" q params body scope cl pm cv ctv) ⟨[], []⟩ = pure [] := by intro _ _ _ _ _; rfl)
    (hdb : (x == ("__debug__" : Str)) = false := by decide) (hd : (a == ("__debug__" : Str)) = false := by decide) (hcd : (a == ("__classdict__" : Str)) = false := by decide) :
    EV X T (.Call (.Name x p) [.Lambda params body scope lpos] [] pos) (eTold keep Cl fb) := by
  refine ⟨_, pe_lamS (k := k) (t := fun E σ H Q => ∀ (A : Around) (outer : List Env) (s0 : Shared) (H0 : Hp) (f c' : Addr), Room k (A.deeper (LamX.lamEnv X scope s0.heap.objs.size f c')) → ∀ (pins : List (Addr × Obj)) (s : Shared), Inv (LamX.lamCx X A outer s0 H0 E scope f c') pins σ H s →
      wpAny (model X.prog X.w) (LamX.lamCx X A outer s0 H0 E scope f c').A (eval body (LamX.lamCx X A outer s0 H0 E scope f c').env) (L2.EP (LamX.lamCx X A outer s0 H0 E scope f c') pins σ Q) (LamX.lamCx X A outer s0 H0 E scope f c').xe s)
    hq hg hm hk lk hcg hb Sg hNg hva hG TB hcode hr (LamX.lamS_by hL) hdef hbind (fun A outer s H E f c' hr2 => ⟨fun pins s1 σ H1 Q I h => h A outer s H f c' hr2 pins s1 I⟩) hdb hd hcd, fun env o env' hf G σ H L Lx hR hS Q hQ => ?_⟩
  unfold eTold at hf
  obtain ⟨r, e1, hf⟩ := bind_eq hf
  refine ⟨(hS.tab _ hP).1, fun H1 k1 t1 => ?_⟩
  have S1 := sep_lam hS hP k1 t1
  intro A outer s0 H0 f c' hr2 pins s I
  obtain ⟨te, pe, h⟩ := hbody A outer s0 H0 (EchA X.K X.mg T (toldZ X Ng x sg g cdv) CS i suite Q) f c' hr2
  refine pe.run pins s σ H1 _ I (h env r e1 G σ H1 L Lx hR S1 _ ?_)
  cases r with
  | ok o' e2 =>
    cases hf
    intro G' v H' L' Lo m ot R S
    cases keep with
    | true => exact hQ G' v H' L' Lo m ot R S
    | false => exact hQ G' .non H' L' [] m (.d .non) R (S.sub .drop)
  | ex y e2 =>
    obtain ⟨o', e3, hf⟩ := bind_eq hf
    cases hf
    intro G' H' L' cls d m R S ex
    refine ⟨fun cls d _ H => EchA X.K X.mg T (toldZ X Ng x sg g cdv) CS i suite Q cls d H, takes_of rfl rfl rfl rfl, G', L' ++ Lx, y, o, hCl y o e3, S, ex, fun G2 v H2 Lo m2 ot S2 => ?_⟩
    exact hQ G2 v H2 L' Lo (m.trans m2) ot (rel_mono m2 R) S2
end
end Sh

/-! Shift layer: what may raise, in further places: arguments, built-ins, a place of a list; a def out of a list called. -/
namespace Sh
open PySem PySem.Spec PyProof.Rows L2
section
variable {X : Cx} {T : TabsT} {a b e : Expr} {es : List Expr} {pos : Pos}
theorem postX_mono {Lx : List Cell} {G G1 : Hp} {σ : St} {Q : VK} {r : XO} (h : PostX X T Lx G σ Q r) (m : Same G G1) : PostX X T Lx G1 σ Q r := by
  cases r with
  | ok o e2 => exact fun G2 v H2 L2 Lo s2 ot R2 S2 => h G2 v H2 L2 Lo (m.trans s2) ot R2 S2
  | ex x e2 => exact fun G2 H2 L2 cls d s2 R2 S2 q => h G2 H2 L2 cls d (m.trans s2) R2 S2 q
/-! ### a built-in of one thing that may raise -/
@[simp] def xOp1 (g : O → Option O) (a : XEx) : XEx := fun e => (a e).bind fun r => match r with
  | .ok o e1 => (g o).bind fun z => some (.ok z e1)
  | .ex x e1 => some (.ex x e1)
theorem xv_of1 {fa : XEx} {r : V → Hp → VK → Prop} {g : O → Option O} (hg : Op1 X T r g) (ha : XV X T a fa) (hp : ∀ {ta : TE}, PE X a ta → PE X e (tUn r ta)) : XV X T e (xOp1 g fa) := by
  obtain ⟨ta, pa, ha⟩ := ha
  refine ⟨_, hp pa, fun env r' hf G σ H L Lx hR hS Q hQ => ?_⟩
  unfold xOp1 at hf
  obtain ⟨r1, e1, hf⟩ := bind_eq hf
  refine ha env r1 e1 G σ H L Lx hR hS _ ?_
  cases r1 with
  | ok o env1 =>
    obtain ⟨z, ez, hf⟩ := bind_eq hf
    cases hf
    intro G1 v1 H1 L1 Lo1 s1 ot1 R1 S1
    exact hg G1 H1 _ o z v1 Lo1 ot1 (fun c hc => List.mem_append_left _ hc) S1 ez Q fun G3 vz H3 Lz s3 oz S3 => hQ G3 vz H3 L1 Lz (s1.trans s3) oz (rel_mono s3 R1) (S3.sub (Sub.left .drop))
  | ex x env1 =>
    cases hf
    exact fun G' H' L' cls d s1 R S q => hQ G' H' L' cls d s1 R S q
theorem xv_b1 {x : Str} {p : Pos} {id : String} {g : O → Option O} {fa : XEx} (hg : Op1 X T (fun v H Q => canC X (.builtin id) [v] H Q) g) (hm : X.mg x = none) (ha : XV X T a fa) (hv : bootBuiltins x = some (.builtin id) := by decide +kernel) (hgl : Gl X x := by rfl) (hn : x ≠ "__name__" := by decide)
    (hdb : (x == ("__debug__" : Str)) = false := by decide) (he : starEach [a] X.env = (false, eval a X.env) :: starEach [] X.env := by rfl) : XV X T (.Call (.Name x p) [a] [] pos) (xOp1 g fa) :=
  xv_of1 hg ha fun {ta} pa => ⟨fun pins s σ H Q I h => (pe_callB canC_ok hgl hm hv (pa_cons pa pa_nil he) hn hdb he (by rfl)).run pins s σ H Q I h⟩
theorem xv_t1 {x : Str} {p : Pos} {id : String} {g : O → Option O} {fa : XEx} (hg : Op1 X T (fun v H Q => canC X (.type id) [v] H Q) g) (hm : X.mg x = none) (ha : XV X T a fa) (hv : bootBuiltins x = some (.type id) := by decide +kernel) (hgl : Gl X x := by rfl) (hn : x ≠ "__name__" := by decide)
    (hdb : (x == ("__debug__" : Str)) = false := by decide) (he : starEach [a] X.env = (false, eval a X.env) :: starEach [] X.env := by rfl) : XV X T (.Call (.Name x p) [a] [] pos) (xOp1 g fa) :=
  xv_of1 hg ha fun {ta} pa => ⟨fun pins s σ H Q I h => (pe_callTy canC_ok hgl hm hv (pa_cons pa pa_nil he) hn hdb he (by rfl)).run pins s σ H Q I h⟩
/-! ### x op y, x may raise, y a value that does not -/
@[simp] def xOp2 (g : O → O → Option O) (a : XEx) (b : Ex) : XEx := fun e => (a e).bind fun r => match r with
  | .ok o e1 => (b e1).bind fun q => (g o q.1).bind fun z => some (.ok z q.2)
  | .ex x e1 => some (.ex x e1)
theorem xv_of2 {fa : XEx} {fb : Ex} {r : R2} {g : O → O → Option O} (hg : Op2 X T r g) (ha : XV X T a fa) (hb : EV X T b fb) (hp : ∀ {ta tb : TE}, PE X a ta → PE X b tb → PE X e (tOp r ta tb)) : XV X T e (xOp2 g fa fb) := by
  obtain ⟨ta, pa, ha⟩ := ha
  obtain ⟨tb, pb, hb⟩ := hb
  refine ⟨_, hp pa pb, fun env r' hf G σ H L Lx hR hS Q hQ => ?_⟩
  unfold xOp2 at hf
  obtain ⟨r1, e1, hf⟩ := bind_eq hf
  refine ha env r1 e1 G σ H L Lx hR hS _ ?_
  cases r1 with
  | ok o env1 =>
    obtain ⟨⟨y, env2⟩, e2, hf⟩ := bind_eq hf
    obtain ⟨z, ez, hf⟩ := bind_eq hf
    cases hf
    intro G1 v1 H1 L1 Lo1 s1 ot1 R1 S1
    refine hb env1 y env2 e2 G1 σ H1 L1 (Lo1 ++ Lx) R1 S1.comm3 _ fun G2 v2 H2 L2 Lo2 s2 ot2 R2 S2 => ?_
    refine hg G2 H2 (Lo2 ++ (L2 ++ (Lo1 ++ Lx))) o y z v1 v2 Lo1 Lo2 (ot_mono s2 ot1) ot2 (fun c hc => List.mem_append_right _ (List.mem_append_right _ (List.mem_append_left _ hc))) (fun c hc => List.mem_append_left _ hc) S2 ez Q fun G3 vz H3 Lz s3 oz S3 => ?_
    exact hQ G3 vz H3 L2 Lz ((s1.trans s2).trans s3) oz (rel_mono s3 R2) (S3.sub (Sub.left (Sub.trans (L' := L2 ++ (Lo1 ++ Lx)) .drop (Sub.left .drop))))
  | ex x env1 =>
    cases hf
    exact fun G' H' L' cls d s1 R S q => hQ G' H' L' cls d s1 R S q
theorem xv_sub {fa : XEx} {fb : Ex} (ha : XV X T a fa) (hb : EV X T b fb) (hs : PlainIx b := by exact fun _ _ => rfl) : XV X T (.Subscript a b pos) (xOp2 gItem fa fb) := xv_of2 o2_item ha hb fun pa pb => pe_ix canI_ok pa pb hs
/-! ### arguments that may raise -/
inductive AXO where
  | ok (os : List O) (e : Ev) | ex (x : Xn) (e : Ev)
abbrev XExA := Ev → Option AXO
def PostA (X : Cx) (T : TabsT) (Lx : List Cell) (G : Hp) (σ : St) (own : List (Option Nat)) (Q : List V → Hp → Prop) : AXO → Prop
  | .ok os e => ∀ (G' : Hp) (vs : List V) (H' : Hp) (L' Lo : List Cell), Same G G' → ArgR X.K G' σ e own os vs Lo → RelS X.K G' e σ L' → Sep T G' H' (Lo ++ (L' ++ Lx)) → Q vs H'
  | .ex x e => ∀ (G' H' : Hp) (L' : List Cell) (cls : Value) (d : Option Addr), Same G G' → RelS X.K G' e σ L' → Sep T G' H' (L' ++ Lx) → ExnR X.K X.mg G' H' x cls d → WOf X cls d σ H'
def XAV (X : Cx) (T : TabsT) (es : List Expr) (own : List (Option Nat)) (f : XExA) : Prop := ∃ t : TA, PA X es t ∧ ∀ (env : Ev) (r : AXO), f env = some r → ∀ (G : Hp) (σ : St) (H : Hp) (L Lx : List Cell), RelS X.K G env σ L → Sep T G H (L ++ Lx) →
  ∀ Q : List V → Hp → Prop, PostA X T Lx G σ own Q r → t σ H Q
@[simp] def xaV (f : ExA) : XExA := fun e => (f e).bind fun p => some (.ok p.1 p.2)
theorem xav_of {own : List (Option Nat)} {f : ExA} (h : AV X T es own f) : XAV X T es own (xaV f) := by
  obtain ⟨t, p, h⟩ := h
  refine ⟨t, p, fun env r hf G σ H L Lx hR hS Q hQ => ?_⟩
  unfold xaV at hf
  obtain ⟨⟨os, env1⟩, e1, hf⟩ := bind_eq hf
  cases hf
  exact h env os env1 e1 G σ H L Lx hR hS Q hQ
@[simp] def xaCons (a : XEx) (r : XExA) : XExA := fun e => (a e).bind fun p => match p with
  | .ok o e1 => (r e1).bind fun q => (match q with
    | .ok os e2 => some (.ok (o :: os) e2)
    | .ex x e2 => some (.ex x e2))
  | .ex x e1 => some (.ex x e1)
theorem xav_cons {fa : XEx} {own : List (Option Nat)} {fr : XExA} (ha : XV X T e fa) (hr : XAV X T es own fr) (hs : starEach (e :: es) X.env = (false, eval e X.env) :: starEach es X.env := by rfl) : XAV X T (e :: es) (none :: own) (xaCons fa fr) := by
  obtain ⟨ta, pa, ha⟩ := ha
  obtain ⟨tr, pr, hr⟩ := hr
  refine ⟨_, pa_cons pa pr hs, fun env r hf G σ H L Lx hR hS Q hQ => ?_⟩
  unfold xaCons at hf
  obtain ⟨r1, e1, hf⟩ := bind_eq hf
  refine ha env r1 e1 G σ H L Lx hR hS _ ?_
  cases r1 with
  | ok o env1 =>
    obtain ⟨r2, e2, hf⟩ := bind_eq hf
    intro G1 v1 H1 L1 Lo1 s1 ot1 R1 S1
    refine hr env1 r2 e2 G1 σ H1 L1 (Lo1 ++ Lx) R1 S1.comm3 _ ?_
    cases r2 with
    | ok os2 env2 =>
      cases hf
      intro G2 vs2 H2 L2 Lo2 s2 ar2 R2 S2
      refine hQ G2 (v1 :: vs2) H2 L2 (Lo1 ++ Lo2) (s1.trans s2) (.v (ot_mono s2 ot1) ar2) R2 (S2.sub (.perm ?_))
      refine ((List.perm_append_comm_assoc L2 Lo1 Lx).append_left Lo2).trans ?_
      refine (List.perm_append_comm_assoc Lo2 Lo1 _).trans ?_
      rw [List.append_assoc]
    | ex x env2 =>
      cases hf
      intro G' H' L' cls d s2 R S q
      exact hQ G' H' L' cls d (s1.trans s2) R (S.sub (Sub.left .drop)) q
  | ex x env1 =>
    cases hf
    exact fun G' H' L' cls d s1 R S q => hQ G' H' L' cls d s1 R S q
@[simp] def xCallA (F : FnX) (own : List (Option Nat)) (as : XExA) : XEx := fun e => (as e).bind fun p => match p with
  | .ok os e1 => (F os).bind fun r => (match r with
    | .ok r fs => some (.ok r (putBack own fs (clearE own e1)))
    | .ex x => some (.ex x (clearE own e1)))
  | .ex x e1 => some (.ex x e1)
/-- what a def at f does -/
structure GoodF (X : Cx) (T : TabsT) (f : Addr) (F : FnX) : Prop where
  ex : ∃ (k : Nat) (fd : FuncData) (ps : List Str), FnOk X.prog X.w X.K X.mg X.base (L2.CX X.prog X.w) k f fd ps (spDX X.K X.mg T F) ∧ Room k X.A ∧ PySem.W.keepIn X.K (.ref f) = true ∧ Binds X.K fd ps []
/-- behind the arguments -/
theorem call_end {F : FnX} {own : List (Option Nat)} {os : List O} {env1 : Ev} {r : XO} (ho : ownOk own = true) (hf : ((F os).bind fun r => (match r with
    | .ok r fs => some (XO.ok r (putBack own fs (clearE own env1)))
    | .ex x => some (.ex x (clearE own env1)))) = some r) {G G1 : Hp} {σ : St} {H1 : Hp} {L1 Lx Lo1 : List Cell} {vs : List V} {Q : VK} (hQ : PostX X T Lx G σ Q r) (s1 : Same G G1) (ar : ArgR X.K G1 σ env1 own os vs Lo1) (R1 : RelS X.K G1 env1 σ L1) (S1 : Sep T G1 H1 (Lo1 ++ (L1 ++ Lx))) :
    spDX X.K X.mg T F vs H1 Q (fun cls d H' => WOf X cls d σ H') := by
  obtain ⟨r2, e2, hf⟩ := bind_eq hf
  obtain ⟨cs, Lr, q1, q2, q3⟩ := call_take ar ho R1
  have S1' : Sep T G1 H1 (cs ++ (Lr ++ Lx)) := S1.sub (.perm (by
    rw [← List.append_assoc, ← List.append_assoc]
    exact q3.append_right Lx))
  cases r2 with
  | ok r fs =>
    cases hf
    refine ⟨G1, os, cs, Lr ++ Lx, .ok r fs, by simpa using q1, S1', e2, fun G2 v H2 cr cf s2 ot rf S2 => ?_⟩
    obtain ⟨L', w1, w2⟩ := call_put (G' := G2) ar ho (fun j z => clearE_none z) (by simpa using rf) (rel_mono s2 q2)
    refine hQ G2 v H2 L' cr (s1.trans s2) ot w1 (S2.sub (Sub.left ?_))
    rw [← List.append_assoc]
    exact w2.right
  | ex x =>
    cases hf
    exact ⟨G1, os, cs, Lr ++ Lx, .ex x, by simpa using q1, S1', e2, fun G2 H2 cls d s2 S2 q => hQ G2 H2 Lr cls d (s1.trans s2) (rel_mono s2 q2) S2 q⟩
theorem xv_callA {k : Nat} {f : Addr} {fd : FuncData} {ps : List Str} {x : Str} {p : Pos} {F : FnX} {own : List (Option Nat)} {fas : XExA} (hF : FnOk X.prog X.w X.K X.mg X.base (L2.CX X.prog X.w) k f fd ps (spDX X.K X.mg T F)) (hr : Room k X.A) (hm : X.mg x = some (.ref f)) (hk : PySem.W.keepIn X.K (.ref f) = true) (hb : Binds X.K fd ps [])
    (ha : XAV X T (e :: es) own fas) (ho : ownOk own = true := by decide) (hg : Gl X x := by rfl) (hdb : (x == ("__debug__" : Str)) = false := by decide) (he : starEach (e :: es) X.env = (false, eval e X.env) :: starEach es X.env := by rfl) (hpl : (backTo pos (starEach es X.env)).any (·.1) = false := by rfl) :
    XV X T (.Call (.Name x p) (e :: es) [] pos) (xCallA F own fas) := by
  obtain ⟨t, pa, h⟩ := ha
  refine ⟨_, pe_callSD (E := fun σ cls d H' => WOf X cls d σ H') hF hr hg hm hk hb .nil (fun σ pins H s e s' I c => takes_wof e s' (XE.of_call I (fun cls d H' h => h) c)) pa hdb he hpl, fun env r hf G σ H L Lx hR hS Q hQ => ?_⟩
  unfold xCallA at hf
  obtain ⟨p1, e1, hf⟩ := bind_eq hf
  refine h env p1 e1 G σ H L Lx hR hS _ ?_
  cases p1 with
  | ok os env1 =>
    intro G1 vs H1 L1 Lo1 s1 ar R1 S1
    rw [List.append_nil]
    exact call_end ho hf hQ s1 ar R1 S1
  | ex x env1 =>
    cases hf
    exact fun G' H' L' cls d s1 R S q => hQ G' H' L' cls d s1 R S q
/-! ### a call of what an expression gives -/
@[simp] def xCallE (sel : Ev → Option (FnX × Ev)) (own : List (Option Nat)) (as : ExA) : XEx := fun e => (sel e).bind fun s => xCall s.1 own as s.2
def tCallE (X : Cx) (T : TabsT) (tf : TE) (ta : TA) : TE := fun σ H Q => tf σ H fun v H1 => ∃ f F, v = .ref f ∧ GoodF X T f F ∧ ta σ H1 fun vs H2 => spDX X.K X.mg T F vs H2 Q (fun cls d H' => WOf X cls d σ H')
theorem pe_callE {func : Expr} {tf : TE} {ta : TA} (hf : PE X func tf) (ha : PA X (e :: es) ta) (hc : eval (.Call func (e :: es) [] pos) X.env = (do callWith pos (← eval func X.env) [] (backTo pos (starEach (e :: es) X.env)) (backToKw pos (keywordEach [] X.env))))
    (he : starEach (e :: es) X.env = (false, eval e X.env) :: starEach es X.env := by rfl) (hpl : (backTo pos (starEach es X.env)).any (·.1) = false := by rfl) : PE X (.Call func (e :: es) [] pos) (tCallE X T tf ta) := by
  refine ⟨fun pins s σ H Q I h => ?_⟩
  rw [hc]
  refine wpAny_bind (thn (hf.run pins s σ H _ I h) fun u s1 ⟨v, H1, I1, r1, f, F, ev, ⟨k, fd, ps, hF, hr, hk, hb⟩, q⟩ => ?_)
  subst ev
  obtain rfl : u = Value.ref f := r1
  refine PySem.W.callWith_K (h₀ := X.base) I1.ok.mod.kin hk (thn (ha.run pos pins s1 σ H1 _ I1 q) fun us s2 ⟨vs, H2, I2, r, q2⟩ => ⟨I2.kIn, ?_⟩) he hpl
  refine run_fnSD (E := fun σ cls d H' => WOf X cls d σ H') (ds := []) (dvs := []) hF hr hb .nil (fun pins H s e s' I c => takes_wof e s' (XE.of_call I (fun cls d H' h => h) c)) I2 r ?_
  rw [List.append_nil]
  exact q2
theorem xv_callE {func : Expr} {φ : Ex} {sel : Ev → Option (FnX × Ev)} {own : List (Option Nat)} {fas : ExA} (hf : EV X T func φ) (hsel : ∀ env F env1, sel env = some (F, env1) → ∃ f : Addr, φ env = some (.d (rfD f), env1) ∧ GoodF X T f F) (ha : AV X T (e :: es) own fas)
    (hc : eval (.Call func (e :: es) [] pos) X.env = (do callWith pos (← eval func X.env) [] (backTo pos (starEach (e :: es) X.env)) (backToKw pos (keywordEach [] X.env))) := by rfl) (ho : ownOk own = true := by decide)
    (he : starEach (e :: es) X.env = (false, eval e X.env) :: starEach es X.env := by rfl) (hpl : (backTo pos (starEach es X.env)).any (·.1) = false := by rfl) : XV X T (.Call func (e :: es) [] pos) (xCallE sel own fas) := by
  obtain ⟨tf, pf, hf⟩ := hf
  obtain ⟨t, pa, h⟩ := ha
  refine ⟨_, pe_callE (T := T) pf pa hc he hpl, fun env r hh G σ H L Lx hR hS Q hQ => ?_⟩
  unfold xCallE at hh
  obtain ⟨⟨F, env1⟩, e1, hh⟩ := bind_eq hh
  obtain ⟨f, e2, good⟩ := hsel env F env1 e1
  refine hf env _ env1 e2 G σ H L Lx hR hS _ fun G1 v H1 L1 Lo1 s1 ot1 R1 S1 => ?_
  obtain ⟨b, hb, rfl⟩ := rf_of ot1
  have hbf : f = b := Int.ofNat.inj hb
  subst hbf
  refine ⟨f, F, rfl, good, ?_⟩
  unfold xCall at hh
  obtain ⟨⟨os, env2⟩, e3, hh⟩ := bind_eq hh
  refine h env1 os env2 e3 G1 σ H1 L1 Lx R1 (S1.sub .drop) _ fun G2 vs H2 L2 Lo2 s2 ar R2 S2 => ?_
  exact call_end ho hh hQ (s1.trans s2) ar R2 S2
/-- [f, g, ..][i] -/
@[simp] def selL (Fs : List FnX) (i : Ex) : Ev → Option (FnX × Ev) := fun e => (i e).bind fun p => (oInt p.1).bind fun k => (L2.ixN Fs.length k).bind fun n => (Fs[n]?).bind fun F => some (F, p.2)
/-- defs by their names -/
inductive NameFs (X : Cx) (T : TabsT) : List Expr → List FnX → List Addr → Prop where
  | nil : NameFs X T [] [] []
  | cons {x : Str} {p : Pos} {es : List Expr} {f : Addr} {F : FnX} {Fs : List FnX} {fs : List Addr} : X.mg x = some (.ref f) → Gl X x → (x == ("__debug__" : Str)) = false → GoodF X T f F → starEach (.Name x p :: es) X.env = (false, eval (.Name x p) X.env) :: starEach es X.env → NameFs X T es Fs fs → NameFs X T (.Name x p :: es) (F :: Fs) (f :: fs)
theorem nameFs_av {ns : List Expr} {Fs : List FnX} {fs : List Addr} (h : NameFs X T ns Fs fs) : ∃ g : ExA, AV X T ns (ns.map fun _ => none) g ∧ ∀ env, g env = some (fs.map (fun f => O.d (rfD f)), env) := by
  induction h with
  | nil => exact ⟨aNil, av_nil, fun env => rfl⟩
  | @cons x p es f F Fs fs h1 h2 h3 h4 h5 _ ih =>
    obtain ⟨g, a, b⟩ := ih
    refine ⟨aCons (eC (rfD f)) g, av_cons (ev_glob (v := .ref f) h1 rfl (fun G => .rf) h2 h3) a h5, fun env => ?_⟩
    unfold aCons
    show Option.bind (g env) _ = _
    rw [b]
    rfl
theorem nameFs_get {ns : List Expr} {Fs : List FnX} {fs : List Addr} (h : NameFs X T ns Fs fs) : Fs.length = fs.length ∧ ∀ (n : Nat) (F : FnX), Fs[n]? = some F → ∃ f, fs[n]? = some f ∧ GoodF X T f F := by
  induction h with
  | nil => exact ⟨rfl, fun n F e => by simp at e⟩
  | @cons x p es f F Fs fs h1 h2 h3 h4 h5 _ ih =>
    refine ⟨by simp [ih.1], fun n F' e => ?_⟩
    cases n with
    | zero =>
      simp at e
      subst e
      exact ⟨f, rfl, h4⟩
    | succ n => exact ih.2 n F' (by simpa using e)
theorem frzAll_rf : ∀ fs : List Addr, frzAll (fs.map (fun f => O.d (rfD f))) = some (fs.map rfD)
  | [] => rfl
  | f :: fs => by
    rw [List.map_cons]
    unfold frzAll
    rw [frzAll_rf fs]
    rfl
/-- [f, g, ..][i](e, ..) -/
theorem xv_callL {ns : List Expr} {Fs : List FnX} {fs : List Addr} {fi : Ex} {own : List (Option Nat)} {fas : ExA} {i : Expr} {p1 p2 : Pos} (hn : NameFs X T ns Fs fs) (hi : EV X T i fi) (ha : AV X T (e :: es) own fas) 
    (hl : Fs.length ≤ 1000 := by decide) (hix : PlainIx i := by exact fun _ _ => rfl)
    (hc : eval (.Call (.Subscript (.List ns p1) i p2) (e :: es) [] pos) X.env = (do callWith pos (← eval (.Subscript (.List ns p1) i p2) X.env) [] (backTo pos (starEach (e :: es) X.env)) (backToKw pos (keywordEach [] X.env))) := by rfl) (ho : ownOk own = true := by decide)
    (he : starEach (e :: es) X.env = (false, eval e X.env) :: starEach es X.env := by rfl) (hpl : (backTo pos (starEach es X.env)).any (·.1) = false := by rfl)
    (hl0 : ∀ x ∈ ns.map (fun _ => (none : Option Nat)), x = none := by intro x h; simp at h; exact h.2.symm) : XV X T (.Call (.Subscript (.List ns p1) i p2) (e :: es) [] pos) (xCallE (selL Fs fi) own fas) := by
  obtain ⟨g, ga, gb⟩ := nameFs_av hn
  obtain ⟨l1, l2⟩ := nameFs_get hn
  refine xv_callE (φ := eOp2 gItem (pV (eLst g)) (pV fi)) (ev_sub (ov_e (ev_lst ga hl0)) (ov_e hi) hix) (fun env F env1 hs => ?_) ha hc ho he hpl
  unfold selL at hs
  obtain ⟨⟨o, env2⟩, e1, hs⟩ := bind_eq hs
  obtain ⟨k, e2, hs⟩ := bind_eq hs
  obtain ⟨n, e3, hs⟩ := bind_eq hs
  obtain ⟨F', e4, hs⟩ := bind_eq hs
  cases hs
  obtain ⟨f, h1, good⟩ := l2 n F e4
  refine ⟨f, ?_, good⟩
  have ho' : o = .d (.int k) := by
    unfold oInt at e2
    split at e2
    · rename_i heq
      cases e2
      exact heq
    · cases e2
  subst ho'
  have q1 : eLst g env = some (.l (fs.map rfD), env) := by
    unfold eLst
    rw [gb]
    show Option.bind (frzAll _) _ = _
    rw [frzAll_rf]
    show (if (fs.map rfD).length ≤ 1000 then _ else _) = _
    rw [if_pos (by rw [List.length_map, ← l1]; exact hl)]
  have q2 : L2.atI (fs.map rfD) k = some (rfD f) := by
    unfold L2.atI
    rw [List.length_map, ← l1, e3]
    simp [h1]
  unfold eOp2 pV
  rw [q1]
  show Option.bind (Option.bind (fi env) _) _ = _
  rw [e1]
  show Option.bind (gItem (.l (fs.map rfD)) (.d (.int k))) _ = _
  have q3 : gItem (.l (fs.map rfD)) (.d (.int k)) = some (.d (rfD f)) := by
    show Option.bind (L2.atI (fs.map rfD) k) _ = _
    rw [q2]
    rfl
  rw [q3]
  rfl
end
end Sh

/-! Shift layer: a def that tells, by its Fun. -/
namespace Sh
open PySem PySem.Spec PyProof.Rows L2
section
variable {X : Cx} {T : TabsT}
theorem suite_units {k : Nat} {Ng : List Str} {x : Str} {sg : Scope} {g : Addr} {cdg : Value} {s : Shared} {H : Hp} {a : Addr} {pn : List (Addr × Obj)} (hr : Room k X.A) : (((toldZ X Ng x sg g cdg s H).suite a pn).A).units + 66 < cLine := by
  have := hr.un
  show X.A.units + 3 + 66 < cLine
  omega
theorem ev_toldF {x a q : Str} {st : Stmt} {g c P CS : Addr} {k i : Nat} {fd : FuncData} {Ng : List Str}
    {params : Arguments} {body : Expr} {scope : Scope} {p lpos pos : Pos} {suite : List Stmt} (keep : Bool) {Cl : Xn → Option O} {fb : XEx} (hr : Room (k + 2) X.A) (F : L2.Fun X.K x x st g fd) (hm : X.mg x = some (.ref g)) (hb : L2.Binds X.K fd [a] []) (Sg : FnScope Ng [a] (defScope st)) (hNg : Ng[0]? = some a) (hva : Vis (defScope st) a)
    (hG : ∀ (q : Str) (cdv : Value), LamX.GivesTo X Ng x (defScope st) g cdv (defBody st) a q (fun tl H Q => tl (EchA X.K X.mg T (toldZ X Ng x (defScope st) g cdv) CS i suite Q) H (if keep = true then Q else fun _ H' => Q .non H')))
    (hCl : ∀ (cdv : Value) (hu : ∀ s H a pn, (((toldZ X Ng x (defScope st) g cdv s H).suite a pn).A).units + 66 < cLine) y o, Cl y = some o → ∀ s H, Tells X.K X.mg T (toldZ X Ng x (defScope st) g cdv s H) CS i suite y o)
    (TB : LamX.TabB X.base X.mg c P) (hcode : X.env.code = .ref c) (hP : (P, some q) ∈ T.1)
    (hbody : ∀ (A : Around) (outer : List Env) (s : Shared) (H : Hp) (E : XK) (f c' : Addr), Room k (A.deeper (LamX.lamEnv X scope s.heap.objs.size f c')) → XV (LamX.lamCx X A outer s H E scope f c') T body fb)
    (hq : q = X.env.qual ++ "<lambda>" := by rfl) (hL : LamX.lamSB X.env.scope scope = true := by first | decide +kernel | kernel_rfl) (hg : Gl X x := by rfl) (hdef : defaultsOf params X.env = ([], []) := by rfl)
    (hbind : ∀ (q : Str) (cl : List (Str × Addr)) (pm cv ctv : Value), bindArgs (PySem.W.kla_fn "<lambda>" q params body scope cl pm cv ctv) ⟨[], []⟩ = pure [] := by intro _ _ _ _ _; rfl)
    (hdb : (x == ("__debug__" : Str)) = false := by decide) (hd : (a == ("__debug__" : Str)) = false := by decide) (hcd : (a == ("__classdict__" : Str)) = false := by decide) :
    EV X T (.Call (.Name x p) [.Lambda params body scope lpos] [] pos) (eTold keep Cl fb) := by
  obtain ⟨oc, od, kV, doc, pm, an, cdv, ct, osl, efd, lkf, hcd'⟩ := F.ex
  subst efd
  exact ev_told keep hr hm F.kp lkf hcd' hb Sg hNg hva (hG q cdv) (hCl cdv fun s H a pn => suite_units hr) TB hcode hP hbody hq hL hg hdef hbind hdb hd hcd
end
end Sh
namespace Sh
open PySem PySem.Spec PyProof.Rows L2
@[simp] def sTgX (t : Tg) (a : XEx) : Sx := fun e => (a e).bind fun r => match r with
  | .ok o e1 => (frz o).bind fun y => (t y e1).bind fun e2 => some (.nx e2)
  | .ex x e1 => some (.ex x e1)
section
variable {X : Cx} {T : TabsT} {lk : Nat → Bool} {e : Expr} {pos : Pos}
theorem sv_tgX {tg : Expr} {f : XEx} {ns : List Nat} {t : Tg} (he : XV X T e f) (hg : GV X T tg ns t) (hl : ∀ j ∈ ns, lk j = false := by decide) (hs : swapsWithSole [tg] e pos.line X.env = pure false := by rfl) (hw : swappedStores [tg] e X.env = pure none := by rfl) (ha1 : (assignEach [tg] X.env).map (·.2) = [assign tg X.env] := by rfl) : SV X T lk (.Assign [tg] e pos) (sTgX t f) := by
  obtain ⟨te, pe, h⟩ := he
  obtain ⟨g, pg, hg⟩ := hg
  refine ⟨_, ps_asg pe pg hs hw ha1, fun env r hf G σ H L Lx hR hS D hD => ?_⟩
  unfold sTgX at hf
  obtain ⟨y, e1, hf⟩ := bind_eq hf
  refine h env y e1 G σ H L Lx hR hS _ ?_
  cases y with
  | ok o env1 =>
    obtain ⟨y, e2, hf⟩ := bind_eq hf
    obtain ⟨env2, e3, hf⟩ := bind_eq hf
    cases hf
    intro G1 v H1 L1 Lo s1 ot R1 S1
    obtain ⟨G2, m2, d2, S2⟩ := frz_of ot e2 S1
    refine hg y env1 env2 e3 G2 σ H1 L1 Lx v d2 (rel_mono m2 R1) S2 _ fun σ3 L3 k3 l3 R3 S3 => ?_
    exact hD G2 σ3 H1 L3 (s1.trans m2) (fun i hi => k3 i fun z => by
      rw [hl i z] at hi
      cases hi) R3 S3
  | ex x env1 =>
    cases hf
    exact postX_from hD
end
/-- what a suite gives back -/
def dropE : Option Out → Option O
  | some (.rt o _) => some o
  | _ => none
theorem run_of {r : Option Out} {o : O} (h : dropE r = some o) : ∃ e', r = some (.rt o e') := by
  unfold dropE at h
  split at h
  · cases h
    exact ⟨_, rfl⟩
  · cases h
/-- the field of what is raised -/
def okF1 (f : Str) (fl : Option (Str × D)) : Bool := match fl with
  | some (g, z) => g == f && flatD z
  | none => false
theorem okF1_of {f : Str} {fl : Option (Str × D)} (h : okF1 f fl = true) : ∃ z, fl = some (f, z) ∧ flatD z = true := by
  unfold okF1 at h
  split at h
  · rename_i g z
    obtain ⟨h1, h2⟩ := Bool.and_eq_true_iff.mp h
    cases eq_of_beq h1
    exact ⟨z, rfl, h2⟩
  · cases h
theorem uq_of {L : List (Addr × Option Str)} (h : (L.map (·.1)).Nodup) : ∀ P ∈ L, ∀ P' ∈ L, P.1 = P'.1 → P = P' := by
  induction L with
  | nil => simp
  | cons p L ih =>
    rw [List.map_cons, List.nodup_cons] at h
    intro P hP P' hP' e
    rw [List.mem_cons] at hP hP'
    rcases hP with hP | hP
    · rcases hP' with hP' | hP'
      · rw [hP, hP']
      · exact (h.1 (List.mem_map.mpr ⟨P', hP', by rw [← e, hP]⟩)).elim
    · rcases hP' with hP' | hP'
      · exact (h.1 (List.mem_map.mpr ⟨P, hP, by rw [e, hP']⟩)).elim
      · exact ih h.2 P hP P' hP' e
end Sh

/-! Shift layer: generator expressions handed to all, any, sum. -/
namespace Sh
open PySem PySem.Spec PyProof.Rows L2
/-- the context of a generator's body: X the maker's, A the around there, s and H what stood when it was made -/
def genCx (X : Cx) (A : Around) (s : Shared) (H : Hp) (cenv : Env) (fp : List Addr) : Cx where
  prog := X.prog
  w := X.w
  K := X.K
  mg := X.mg
  base := X.base
  A := A
  N := X.N
  s_0 := s
  H_0 := H
  env := cenv
  outer := X.stack
  stack := cenv :: X.stack
  ex := fp
  fn := fun _ => false
  calm := true
  pn := []
  xe := fun _ _ => False
abbrev gEnv (X : Cx) (scope : Scope) (L : Addr) (code : Value) : Env := genEnv scope (cloFrom X.env.cells scope.names []) L code builtinsNs X.env
section
variable {X : Cx} {pins : List (Addr × Obj)} {σ : L2.St} {H : Hp} {s : Shared}
theorem gen_start {own : List (Str × Nat)} {scope : Scope} {A : Around} {code : Value} {m0 : Str → Option Value} {s5 : Shared} {fp : List Addr} (hfp : ∀ b ∈ fp, FpOk X pins H b ∧ b < s.heap.objs.size) (I : Inv X pins σ H s) (hN : X.N.Nodup) (ok : BlkOk X.N X.env.scope scope own) (nc : ∀ y ∈ scope.names, y.2 ≠ .cell)
    (hA : A.handled = none) (hfr : A.frames = some (gEnv X scope s.heap.objs.size code :: X.stack)) (hns : s5.heap.Ns s.heap.objs.size m0) (kp : ∀ b o, s.heap.get? b = some o → s5.heap.get? b = some o) (hos : s5.os = s.os) (hb : AllBare s5.gens) :
    Inv (genCx X A s H (gEnv X scope s.heap.objs.size code) fp) [] (wipe σ (own.map (·.2))) H s5 := by
  have e0 := I.env0
  have hfree : ∀ y ∈ scope.names, y.2 = .free → ∃ c, X.env.cells.lookup y.1 = some c := fun y hy e => by
    rcases ok.free y hy e with k | k
    · exact I.ok.has _ (.inl k)
    · exact I.ok.has _ (.inr k)
  have cm : ∀ {y c}, (cloFrom X.env.cells scope.names []).lookup y = some c → X.env.cells.lookup y = some c := fun {y c} e => by
    rcases cloFrom_mem (PySem.mem_of_lookup e) with hm | ⟨h1, h2⟩
    · cases hm
    · obtain ⟨c1, hc⟩ := hfree _ h1 rfl
      have hc : X.env.cells.lookup y = some c1 := hc
      have e2 : c = c1 := by
        rw [h2, hc] <;> rfl
      rw [e2]
      exact hc
  have look : ∀ {y}, scope.names.lookup y = some .free → ∃ c, (cloFrom X.env.cells scope.names []).lookup y = some c := fun {y} hl => by
    have hy : (y, NameKind.free) ∈ scope.names := PySem.mem_of_lookup hl
    exact mem_lookup (cloFrom_has (cells := X.env.cells) (acc := []) hy)
  have cellK : ∀ {c : Addr} {v : Option Value}, s.heap.IsCell c v → s5.heap.IsCell c v := fun {c v} ⟨o, ho, hd⟩ => ⟨o, kp _ _ ho, hd⟩
  refine ⟨⟨e0.mod, ok.kind, I.ok.glob, rfl, Nat.le_refl _, fun y z c e1 e2 => I.ok.inj y z c (cm e1) (cm e2), fun y hy => ?_, fun y c z _ => ?_, fun _ => hA, hfr, .inr ⟨rfl, rfl⟩, fun b hb => ⟨Nat.ne_of_lt (hfp b hb).2, fun y c e => (hfp b hb).1.2.2.2.2.1 y c (cm e)⟩, e0.bs, e0.bsz, fun b o e hb => ?_,
      fun b hb z => ?_, e0.funs, e0.frf⟩,
    hos, hb, Un.kept kp, ⟨_, hns, fun i y v e1 e2 e3 => ?_⟩, fun y c e => ?_, e0.hok.fresh (Nat.le_refl _), fun y c e => ?_, fun q hq => absurd (show q ∈ ([] : List (Addr × Obj)) ++ [] from hq) (by simp), e0.hok.kept kp, by rw [wipe_length]; exact I.len⟩
  · have hy : scope.names.lookup y = some .cell ∨ scope.names.lookup y = some .free := hy
    rcases hy with hy | hy
    · exact absurd rfl (nc _ (PySem.mem_of_lookup hy))
    · exact look hy
  · have z : false = true := z
    cases z
  · rcases (hfp b hb).1.2.2.2.1 with z | z
    · exact I.ok.noex b o e z
    · exact absurd (Nat.lt_of_lt_of_le (Heap.lt_size e) (Nat.le_trans I.ok.bsz z)) (Nat.lt_irrefl _)
  · rcases List.mem_cons.mp (I.stkSub b z) with z | z
    · exact (hfp b hb).1.2.1 z
    · exact (hfp b hb).1.2.2.1 z
  · have e3 : Vis scope y := e3
    have e2 : (wipe σ (own.map (·.2)))[i]? = some (some v) := e2
    have e1 : X.N[i]? = some y := e1
    have hni : i ∉ own.map (·.2) := fun z => by
      rw [wipe_get, if_pos z] at e2
      cases hh : σ[i]? <;> rw [hh] at e2 <;> cases e2
    rw [wipe_get, if_neg hni] at e2
    have kfree : scope.names.lookup y = some .free := by
      have no : ∀ k, scope.names.lookup y = some k → k = .local → False := fun k hk hk' => by
        rcases ok.own _ (PySem.mem_of_lookup hk) (.inl hk') with e' | e'
        · obtain ⟨p, hp, hpy⟩ := List.mem_map.mp e'
          have e4 := ok.ix p hp
          have : p.1 = y := hpy
          rw [this] at e4
          exact hni (List.mem_map.mpr ⟨p, hp, nodup_ix hN e4 e1⟩)
        · exact e' (List.mem_of_getElem? e1)
      rcases e3 with k | k | k
      · exact (no _ k rfl).elim
      · exact absurd rfl (nc _ (PySem.mem_of_lookup k))
      · exact k
    obtain ⟨m, hn, hl⟩ := I.loc
    have hvis : Vis X.env.scope y := (ok.free _ (PySem.mem_of_lookup kfree) rfl).elim (fun k => .inr (.inl k)) (fun k => .inr (.inr k))
    obtain ⟨w', r, q⟩ := hl i y v e1 e2 hvis
    obtain ⟨c2, h2⟩ := look kfree
    refine ⟨w', r, .inr ⟨.inr kfree, c2, h2, ?_⟩⟩
    have c1 := cm h2
    rcases q with ⟨k', _⟩ | ⟨_, c3, e', z⟩
    · have k' : X.env.scope.names.lookup y = some .local := k'
      rcases ok.free _ (PySem.mem_of_lookup kfree) rfl with k2 | k2 <;> rw [show X.env.scope.names.lookup y = _ from k2] at k' <;> cases k'
    · rw [c1] at e'
      cases e'
      exact cellK z
  · obtain ⟨w', z⟩ := I.cell y c (cm e)
    exact ⟨w', cellK z⟩
  · exact I.freeC y c (cm e)
/-- gens change -/
theorem inv_gens {g' : Array GenState} (I : Inv X pins σ H s) (hb : AllBare g') : Inv X pins σ H { s with gens := g' } :=
  ⟨I.ok, I.os, hb, I.base, I.loc, I.cell, I.free, I.freeC, I.pin, I.hok, I.len⟩
theorem bare_set {s : Shared} {g : Nat} {gs : GenState} (h : AllBare s.gens) (hg : gs.bare = true) : AllBare (s.setGen g gs).gens := by
  intro y hy
  have hy : y ∈ s.gens.setIfInBounds g gs := hy
  rcases Array.mem_or_eq_of_mem_setIfInBounds hy with z | z
  · exact h y z
  · rw [z]
    exact hg
theorem inv_setGen {g : Nat} {gs : GenState} (I : Inv X pins σ H s) (hg : gs.bare = true) : Inv X pins σ H (s.setGen g gs) := by
  have q := inv_gens (g' := (s.setGen g gs).gens) I (bare_set I.bare hg)
  exact q
end

/-! ### the generator's turns -/
section
variable {tg iter elt : Expr} {ifs : List Expr} {scope : Scope} {gpos : Pos} {fp : List Addr} {it g R0 : Addr} {og : Obj} {tn : Nat → Heap → Prop} {J : It}
/-- the state at turn i of the generator: c lies at R0 -/
def GSt (Y : Cx) (fp : List Addr) (tn : Nat → Heap → Prop) (g R0 : Addr) (og : Obj) (i : Nat) (P : Obj → L2.St → Hp → Prop) (s : Shared) : Prop :=
  ∃ c σ H, Inv Y [(g, og), (R0, c)] σ H s ∧ tn i s.heap ∧ (∀ b ∈ fp, H b = none) ∧ P c σ H
def gProto (Y : Cx) (fp : List Addr) (tn : Nat → Heap → Prop) (g R0 : Addr) (og : Obj) (W : Obj → Nat → Nat → L2.St → Hp → Prop) (WY : Obj → Nat → Nat → V → L2.St → Hp → Prop) : Protocol := fun m s0 v s kap =>
  ∃ i, GSt Y fp tn g R0 og i (fun c σ H => ∃ x, RelV x v ∧ WY c m i x σ H) s ∧ s.heap.get? R0 = s0.heap.get? R0 ∧ ∀ s'', GSt Y fp tn g R0 og i (fun c σ H => W c m i σ H) s'' → kap (.send .none) s''
def gEnd (Y : Cx) (g R0 : Addr) (og : Obj) (WD : Obj → Hp → Prop) : Nat → Shared → Shared → Prop := fun n s0 s =>
  (∃ c σ H, Inv Y [(g, og), (R0, c)] σ H s ∧ WD c H) ∧ s.heap.get? R0 = s0.heap.get? R0
/-- what a turn does -/
def GTurn (J : It) (gt : TG) (tt : TT) (te : TE) (W : Obj → Nat → Nat → L2.St → Hp → Prop) (WY : Obj → Nat → Nat → V → L2.St → Hp → Prop) (WD : Obj → Hp → Prop) (rem : Nat → Nat) : Prop :=
  ∀ c n i σ H, W c n i σ H → (J.stop i H ∧ WD c H) ∨ (rem (i + 1) < rem i ∧ J.go i H ∧ ∀ x H1, J.yld i H x H1 → gt x σ H1 fun σ2 H2 => tt σ2 H2 fun b H3 =>
    if b = true then te σ2 H3 fun y H4 => ∃ m, n = m + 1 ∧ WY c m (i + 1) y σ2 H4 else W c n (i + 1) σ2 H3)
theorem seg_bindF {M : Model} {A : Around} {R : GenEnd} {Y : Protocol} {n : Nat} {s₀ : Shared} {c : Code} {fs : List Frame} {s : Shared} {α β : Type} {m : Sem α} {K : α → Sem β} {K' : β → Sem PySem.Fin} {H' : Value → Sem PySem.Fin} {gd lv} {Q : α → Shared → Prop}
    (h : wpAny M (A.over c fs) m Q (fun _ _ => False) s) (hq : ∀ a s', Q a s' → Seg M A R Y n s₀ c ((K a).wrap K' H' gd lv) fs s') : Seg M A R Y n s₀ c ((m >>= K).wrap K' H' gd lv) fs s :=
  seg_bind_wrap (wpAny_mono h hq fun _ _ z => z.elim)
theorem seg_gloop {X : Cx} {A : Around} {s3 : Shared} {H3 : Hp} {cenv : Env} {gt : TG} {tt : TT} {te : TE} {W : Obj → Nat → Nat → L2.St → Hp → Prop} {WY : Obj → Nat → Nat → V → L2.St → Hp → Prop} {WD : Obj → Hp → Prop} {rem : Nat → Nat} {Y : Cx}
    (hY : Y = genCx X (A.over (.compLoop (.GeneratorExp elt [⟨tg, iter, ifs, 0⟩] scope gpos) 0 (.ref it) .none cenv) []) s3 H3 cenv fp)
    (T : Turn X.prog X.w X.K tg J fp it tn) (pg : PG Y tg gt) (pt : PTs Y ifs tt) (pe : PE Y elt te) (GT : GTurn J gt tt te W WY WD rem) (hco : cenv.scope.isCoroutine = false) (hgf : g ∉ fp) (hrf : R0 ∉ fp) :
    ∀ (k n i : Nat) (s0 s : Shared), rem i ≤ k → GSt Y fp tn g R0 og i (fun c σ H => W c n i σ H) s → s.heap.get? R0 = s0.heap.get? R0 →
      Seg (model X.prog X.w) A (fun n s0 r s => r = .ok .next ∧ gEnd Y g R0 og WD n s0 s) (gProto Y fp tn g R0 og W WY) n s0 (.compLoop (.GeneratorExp elt [⟨tg, iter, ifs, 0⟩] scope gpos) 0 (.ref it) .none cenv)
        ((model X.prog X.w).den (.compLoop (.GeneratorExp elt [⟨tg, iter, ifs, 0⟩] scope gpos) 0 (.ref it) .none cenv)) [] s := by
  have stat : ∀ {c : Obj} {σ' : L2.St} {H' : Hp} {s' : Shared}, Inv Y [(g, og), (R0, c)] σ' H' s' → (∀ b ∈ fp, H' b = none) → ∀ b ∈ fp, FpOk Y [(g, og), (R0, c)] H' b := fun {c σ' H' s'} I' hn b hb => by
    have he : b ∈ Y.ex := by
      rw [hY]
      exact hb
    have hp : Y.pn = [] := by rw [hY] <;> rfl
    refine ⟨hn b hb, (I'.ok.exf b he).1, I'.ok.exfs b he, .inl he, fun x c e => (I'.ok.exf b he).2 x c e, fun p hp' z => ?_⟩
    rw [hp, List.nil_append] at hp'
    rcases List.mem_cons.mp hp' with e | hp'
    · rw [e] at z
      exact hgf (by rw [show g = b from z]; exact hb)
    · rcases List.mem_cons.mp hp' with e | hp'
      · rw [e] at z
        exact hrf (by rw [show R0 = b from z]; exact hb)
      · cases hp'
  have hpr : Y.prog = X.prog := by rw [hY] <;> rfl
  have hw : Y.w = X.w := by rw [hY] <;> rfl
  have hK : Y.K = X.K := by rw [hY] <;> rfl
  have hcm : Y.calm = true := by rw [hY] <;> rfl
  have hYA : Y.A = A.over (.compLoop (.GeneratorExp elt [⟨tg, iter, ifs, 0⟩] scope gpos) 0 (.ref it) .none cenv) [] := by rw [hY] <;> rfl
  have hYe : Y.env = cenv := by rw [hY] <;> rfl
  have hYx : Y.xe = fun _ _ => False := by rw [hY] <;> rfl
  have r0 : ∀ {c : Obj} {pl : List (Addr × Obj)} {σ' : L2.St} {H' : Hp} {s' : Shared}, Inv Y ([(g, og), (R0, c)] ++ pl) σ' H' s' → s'.heap.get? R0 = some c := fun {c pl σ' H' s'} I' => (I'.pin (R0, c) (List.mem_append_right _ (by simp))).1
  intro k
  induction k with
  | zero =>
    intro n i s0 s hk hst hs0
    obtain ⟨c, σ, H, I, st, hn, w⟩ := hst
    show Seg _ A _ _ _ s0 _ ((compTurn (.GeneratorExp elt [⟨tg, iter, ifs, 0⟩] scope gpos) 0 (.ref it) .none cenv).onRaise (leaving cenv)) [] s
    rw [compTurn_gen, Sem.onRaise_eq_wrap]
    refine seg_bind_wrap (wpAny_standAt ?_)
    rcases GT c n i σ H w with ⟨stop, wd⟩ | ⟨hr, _⟩
    · have td := T.done Y hpr hw hK hcm i _ s _ H (fun _ _ => False) I (stat I hn) st stop
      rw [hYA] at td
      refine seg_bindF td fun r s6 ⟨hr, I6⟩ => ?_
      subst hr
      exact seg_end (.ok .next) ⟨rfl, ⟨c, σ, H, I6, wd⟩, by rw [← hs0, r0 (pl := []) I6, r0 (pl := []) I]⟩
    · exact absurd hr (by omega)
  | succ k ih =>
    intro n i s0 s hk hst hs0
    obtain ⟨c, σ, H, I, st, hn, w⟩ := hst
    show Seg _ A _ _ _ s0 _ ((compTurn (.GeneratorExp elt [⟨tg, iter, ifs, 0⟩] scope gpos) 0 (.ref it) .none cenv).onRaise (leaving cenv)) [] s
    rw [compTurn_gen, Sem.onRaise_eq_wrap]
    refine seg_bind_wrap (wpAny_standAt ?_)
    rcases GT c n i σ H w with ⟨stop, wd⟩ | ⟨hr, go, step⟩
    · have td := T.done Y hpr hw hK hcm i _ s _ H (fun _ _ => False) I (stat I hn) st stop
      rw [hYA] at td
      refine seg_bindF td fun r s6 ⟨hr, I6⟩ => ?_
      subst hr
      exact seg_end (.ok .next) ⟨rfl, ⟨c, σ, H, I6, wd⟩, by rw [← hs0, r0 (pl := []) I6, r0 (pl := []) I]⟩
    · have ti := T.item Y hpr hw hK hcm i _ s _ H (fun _ _ => False) I (stat I hn) st go
      rw [hYA] at ti
      refine seg_bindF ti fun r s6 ⟨u, hru, h6⟩ => ?_
      subst hru
      refine seg_bindF h6 fun _ s7 ⟨x, H7, I7, r7, y7, st7, n7⟩ => ?_
      have I7' := I7.pinned (stat I7 n7) (T.obj _ _ st7)
      have p1 := pg.run _ s7 _ H7 x u _ I7' r7 (step x H7 y7)
      rw [hYA, hYe, hYx, hpr, hw] at p1
      refine seg_bindF p1 fun _ s8 ⟨σ8, H8, I8, q8⟩ => ?_
      have p2 := pt.run _ s8 σ8 H8 _ I8 q8
      rw [hYA, hYe, hYx, hpr, hw] at p2
      refine seg_bindF p2 fun b s9 ⟨H9, I9, q9⟩ => ?_
      have fin : ∀ {s' : Shared} {H' : Hp} {σ' : L2.St}, Inv Y ([(g, og), (R0, c)] ++ pinsAt fp s7.heap) σ' H' s' → Inv Y [(g, og), (R0, c)] σ' H' s' ∧ tn (i + 1) s'.heap ∧ (∀ b ∈ fp, H' b = none) := fun {s' H' σ'} I' => by
        have pin' : ∀ b ∈ fp, ∀ o, s7.heap.get? b = some o → s'.heap.get? b = some o ∧ H' b = none := fun b hb o e =>
          let z := I'.pin (b, o) (List.mem_append_right _ (List.mem_append_right _ (mem_pinsAt hb e)))
          ⟨z.1, z.2.1⟩
        refine ⟨I'.unpinned, T.keep _ _ _ st7 fun b hb o e => (pin' b hb o e).1, fun b hb => ?_⟩
        obtain ⟨o, e, _⟩ := T.obj _ _ st7 b hb
        exact (pin' b hb o e).2
      cases b with
      | false =>
        simp only [Bool.false_eq_true, if_false] at q9 ⊢
        obtain ⟨a1, a2, a3⟩ := fin I9
        exact seg_again rfl (ih n (i + 1) s0 _ (by omega) ⟨c, σ8, H9, a1, a2, a3, q9⟩ (by rw [← hs0, r0 I9, r0 (pl := []) I]))
      | true =>
        simp only [if_true] at q9 ⊢
        have hy : ∀ v, yieldOut cenv v = yieldValue v := fun v => by simp only [yieldOut, hco, Bool.false_eq_true, if_false]
        simp only [hy]
        rw [Sem.bind_eq_wrap', Sem.bind_eq_wrap', Sem.wrap_wrap, Sem.wrap_wrap]
        have p3 := pe.run _ s9 σ8 H9 _ I9 q9
        rw [hYA, hYe, hYx, hpr, hw] at p3
        refine seg_wrap (wpAny_mono p3 (fun yv s10 h10 => ?_) fun _ _ z => z.elim)
        obtain ⟨y, H10, I10, r10, m, hm, wy⟩ := h10
        subst hm
        obtain ⟨a1, a2, a3⟩ := fin I10
        refine seg_at (seg_yield rfl rfl rfl ⟨i + 1, ⟨c, σ8, H10, a1, a2, a3, y, r10, wy⟩, by rw [← hs0, r0 I10, r0 (pl := []) I], fun s'' hs'' => ?_⟩)
        exact seg_again rfl (ih m (i + 1) s'' s'' (by omega) hs'' rfl)

def preN (f : Nat → Prop) : Nat → Prop
  | 0 => False
  | m + 1 => f m
/-- the suspended generator -/
def Goer (X Y : Cx) (B : Around) (fp : List Addr) (tn : Nat → Heap → Prop) (g R0 : Addr) (og : Obj) (W : Obj → Nat → Nat → L2.St → Hp → Prop) (WY : Obj → Nat → Nat → V → L2.St → Hp → Prop) (WD : Obj → Hp → Prop) (gs : GenState) (n : Nat) (s : Shared) : Prop :=
  gs.Goes (model X.prog X.w) B.in1 (fun n s0 r s => r = .ok .next ∧ gEnd Y g R0 og WD n s0 s) (gProto Y fp tn g R0 og W WY) n (.send .none) s
theorem gen_next {X Y : Cx} {B : Around} {W : Obj → Nat → Nat → L2.St → Hp → Prop} {WY : Obj → Nat → Nat → V → L2.St → Hp → Prop} {WD : Obj → Hp → Prop} {gi n i : Nat} {gs : GenState} {s : Shared} {E : Value → Shared → Prop} {nm qn : Value}
    (hh : B.handled = none) (hroom : B.depth < recursionLimit) (hog : og = { cls := .type "generator", data := .fields #[.int gi 0, nm, qn] }) (hst : GSt Y fp tn g R0 og i (fun c σ H => W c n i σ H) s) (hg : s.gens[gi]? = some gs)
    (hq : ∀ s'', GSt Y fp tn g R0 og i (fun c σ H => W c n i σ H) s'' → Goer X Y B fp tn g R0 og W WY WD gs n s'') :
    wpAny (model X.prog X.w) B (pyNext (.ref g)) (fun r s' => s'.heap.get? R0 = s.heap.get? R0 ∧ match r with
      | some v => ∃ i' gs', s'.gens[gi]? = some gs' ∧ GSt Y fp tn g R0 og i' (fun c σ H => ∃ x, RelV x v ∧ WY c (n - 1) i' x σ H) s' ∧
          (∀ s'', GSt Y fp tn g R0 og i' (fun c σ H => W c (n - 1) i' σ H) s'' → preN (fun m => Goer X Y B fp tn g R0 og W WY WD gs' m s'') n)
      | none => ∃ c σ H, Inv Y [(g, og), (R0, c)] σ H s' ∧ WD c H) E s := by
  have hst0 := hst
  obtain ⟨c, σ, H, I, st, hn, w⟩ := hst
  have hlt : gi + 1 ≤ s.gens.size := by
    rcases Nat.lt_or_ge gi s.gens.size with h' | h'
    · exact h'
    · rw [Array.getElem?_eq_none h'] at hg
      cases hg
  have hgen : s.heap.get? g = some og := (I.pin (g, og) (List.mem_append_right _ (by simp))).1
  have isg : s.heap.IsGen g gi := by
    subst hog
    exact ⟨_, nm, qn, hgen, rfl, rfl, rfl⟩
  refine GenW.wpAny_gsz hlt ?_
  refine wpAny_pyNext_genexpQ (P := fun n s0 s1 => gEnd Y g R0 og WD n s0 s1) hh I.nolimit hroom isg hg (hq _ ⟨c, σ, H, inv_setGen I rfl, st, hn, w⟩) (fun v s1 gs' hb hv => ?_) (fun s1 hp h' hk => ?_)
  · obtain ⟨i', ⟨c', σ', H', I', st', hn', w'⟩, e0, kap⟩ := hv
    intro hsz
    refine ⟨e0, i', gs', ?_, ⟨c', σ', H', inv_setGen I' hb, st', hn', w'⟩, fun s'' hs'' => ?_⟩
    · have hsz2 : gi + 1 ≤ (s1.gens.setIfInBounds gi gs').size := hsz
      rw [Array.size_setIfInBounds] at hsz2
      show (s1.gens.setIfInBounds gi gs')[gi]? = some gs'
      rw [Array.getElem?_setIfInBounds, if_pos rfl, if_pos (show gi < s1.gens.size from hsz2)]
    · have q := kap s'' hs''
      cases n with
      | zero => exact q
      | succ m => exact q
  · obtain ⟨⟨c', σ', H', I', wd⟩, e0⟩ := hp
    intro _
    have I2 := inv_setGen (g := gi) (gs := .finished) I' rfl
    have I3 := I2.kept (h' := h') (t' := s1.toks) (fun b o e => hk b o e)
    refine ⟨?_, c', σ', H', I3, wd⟩
    have q := (I'.pin (R0, c') (List.mem_append_right _ (by simp))).1
    have e1 : s1.heap.get? R0 = s.heap.get? R0 := e0
    show h'.get? R0 = _
    rw [hk _ _ q, ← e1]
    exact q.symm
end

/-! ### all, any -/
section
variable {fp : List Addr} {g : Addr} {og : Obj} {tn : Nat → Heap → Prop}
theorem all_gloop {X Y : Cx} {A : Around} {W : Obj → Nat → Nat → L2.St → Hp → Prop} {QT QF : Hp → Prop} {gi : Nat} {nm qn : Value} {R : Result → Shared → Prop} (hh : A.handled = none) (hroom : A.depth < recursionLimit)
    (hog : og = { cls := .type "generator", data := .fields #[.int gi 0, nm, qn] }) (hT : ∀ c σ H s, Inv Y [(g, og), (g, c)] σ H s → QT H → R (.ok (.ret (.bool true))) s) (hF : ∀ c σ H s, Inv Y [(g, og), (g, c)] σ H s → QF H → R (.ok (.ret (.bool false))) s) :
    ∀ (n i : Nat) (gs : GenState) (s : Shared), GSt Y fp tn g g og i (fun c σ H => W c n i σ H) s → s.gens[gi]? = some gs →
      (∀ s'', GSt Y fp tn g g og i (fun c σ H => W c n i σ H) s'' → Goer X Y A.in1 fp tn g g og W (fun c m i x σ H => ∃ b, x = .bl b ∧ if b = true then W c m i σ H else QF H) (fun _ H => QT H) gs n s'') →
      codeAny (model X.prog X.w) A (.builtin "all.loop" ⟨[.ref g], []⟩) R s := by
  intro n
  induction n with
  | zero =>
    intro i gs s hst hg hq
    refine codeAny_builtin F.entry_all_loop ?_
    rw [Around.under_plainId F.plain_all_loop _]
    show wpAny _ A.in1 (pyNext (.ref g) >>= _) _ _ s
    refine wpAny_bind (wpAny_mono (gen_next (E := fun _ _ => False) (show A.in1.handled = none from hh) (show A.in1.depth < recursionLimit from hroom) hog hst hg hq) (fun r s' h => ?_) fun _ _ z => z.elim)
    obtain ⟨_, h⟩ := h
    cases r with
    | none =>
      obtain ⟨c, σ, H, I, wd⟩ := h
      exact wpAny_bind (wpAny_rule (wpAny_pure (hT c σ H s' I wd)))
    | some v =>
      obtain ⟨i', gs', _, ⟨c, σ, H, I, st, hn, x, rx, b, rfl, w⟩, kap⟩ := h
      obtain rfl : v = Value.bool b := rx
      refine wpAny_bind (wpAny_holding (wpAny_truthy_bool ?_))
      refine wpAny_bind (wpAny_letGo ?_)
      cases b with
      | true =>
        simp only [if_true] at w ⊢
        exact (kap s' ⟨c, σ, H, I, st, hn, w⟩).elim
      | false =>
        simp only [Bool.false_eq_true, if_false] at w ⊢
        exact wpAny_bind (wpAny_rule (wpAny_pure (hF c σ H s' I w)))
  | succ n ih =>
    intro i gs s hst hg hq
    refine codeAny_builtin F.entry_all_loop ?_
    rw [Around.under_plainId F.plain_all_loop _]
    show wpAny _ A.in1 (pyNext (.ref g) >>= _) _ _ s
    refine wpAny_bind (wpAny_mono (gen_next (E := fun _ _ => False) (show A.in1.handled = none from hh) (show A.in1.depth < recursionLimit from hroom) hog hst hg hq) (fun r s' h => ?_) fun _ _ z => z.elim)
    obtain ⟨_, h⟩ := h
    cases r with
    | none =>
      obtain ⟨c, σ, H, I, wd⟩ := h
      exact wpAny_bind (wpAny_rule (wpAny_pure (hT c σ H s' I wd)))
    | some v =>
      obtain ⟨i', gs', hg', ⟨c, σ, H, I, st, hn, x, rx, b, rfl, w⟩, kap⟩ := h
      obtain rfl : v = Value.bool b := rx
      refine wpAny_bind (wpAny_holding (wpAny_truthy_bool ?_))
      refine wpAny_bind (wpAny_letGo ?_)
      cases b with
      | true =>
        simp only [if_true] at w ⊢
        exact wpAny_pure ⟨plainId_quiet F.plain_all_loop _, ih i' gs' s' ⟨c, σ, H, I, st, hn, w⟩ hg' kap⟩
      | false =>
        simp only [Bool.false_eq_true, if_false] at w ⊢
        exact wpAny_bind (wpAny_rule (wpAny_pure (hF c σ H s' I w)))
theorem any_gloop {X Y : Cx} {A : Around} {W : Obj → Nat → Nat → L2.St → Hp → Prop} {QT QF : Hp → Prop} {gi : Nat} {nm qn : Value} {R : Result → Shared → Prop} (hh : A.handled = none) (hroom : A.depth < recursionLimit)
    (hog : og = { cls := .type "generator", data := .fields #[.int gi 0, nm, qn] }) (hT : ∀ c σ H s, Inv Y [(g, og), (g, c)] σ H s → QT H → R (.ok (.ret (.bool false))) s) (hF : ∀ c σ H s, Inv Y [(g, og), (g, c)] σ H s → QF H → R (.ok (.ret (.bool true))) s) :
    ∀ (n i : Nat) (gs : GenState) (s : Shared), GSt Y fp tn g g og i (fun c σ H => W c n i σ H) s → s.gens[gi]? = some gs →
      (∀ s'', GSt Y fp tn g g og i (fun c σ H => W c n i σ H) s'' → Goer X Y A.in1 fp tn g g og W (fun c m i x σ H => ∃ b, x = .bl b ∧ if b = true then QF H else W c m i σ H) (fun _ H => QT H) gs n s'') →
      codeAny (model X.prog X.w) A (.builtin "any.loop" ⟨[.ref g], []⟩) R s := by
  intro n
  induction n with
  | zero =>
    intro i gs s hst hg hq
    refine codeAny_builtin F.entry_any_loop ?_
    rw [Around.under_plainId F.plain_any_loop _]
    show wpAny _ A.in1 (pyNext (.ref g) >>= _) _ _ s
    refine wpAny_bind (wpAny_mono (gen_next (E := fun _ _ => False) (show A.in1.handled = none from hh) (show A.in1.depth < recursionLimit from hroom) hog hst hg hq) (fun r s' h => ?_) fun _ _ z => z.elim)
    obtain ⟨_, h⟩ := h
    cases r with
    | none =>
      obtain ⟨c, σ, H, I, wd⟩ := h
      exact wpAny_bind (wpAny_rule (wpAny_pure (hT c σ H s' I wd)))
    | some v =>
      obtain ⟨i', gs', _, ⟨c, σ, H, I, st, hn, x, rx, b, rfl, w⟩, kap⟩ := h
      obtain rfl : v = Value.bool b := rx
      refine wpAny_bind (wpAny_holding (wpAny_truthy_bool ?_))
      refine wpAny_bind (wpAny_letGo ?_)
      cases b with
      | false =>
        simp only [Bool.false_eq_true, if_false] at w ⊢
        exact (kap s' ⟨c, σ, H, I, st, hn, w⟩).elim
      | true =>
        simp only [if_true] at w ⊢
        exact wpAny_bind (wpAny_rule (wpAny_pure (hF c σ H s' I w)))
  | succ n ih =>
    intro i gs s hst hg hq
    refine codeAny_builtin F.entry_any_loop ?_
    rw [Around.under_plainId F.plain_any_loop _]
    show wpAny _ A.in1 (pyNext (.ref g) >>= _) _ _ s
    refine wpAny_bind (wpAny_mono (gen_next (E := fun _ _ => False) (show A.in1.handled = none from hh) (show A.in1.depth < recursionLimit from hroom) hog hst hg hq) (fun r s' h => ?_) fun _ _ z => z.elim)
    obtain ⟨_, h⟩ := h
    cases r with
    | none =>
      obtain ⟨c, σ, H, I, wd⟩ := h
      exact wpAny_bind (wpAny_rule (wpAny_pure (hT c σ H s' I wd)))
    | some v =>
      obtain ⟨i', gs', hg', ⟨c, σ, H, I, st, hn, x, rx, b, rfl, w⟩, kap⟩ := h
      obtain rfl : v = Value.bool b := rx
      refine wpAny_bind (wpAny_holding (wpAny_truthy_bool ?_))
      refine wpAny_bind (wpAny_letGo ?_)
      cases b with
      | false =>
        simp only [Bool.false_eq_true, if_false] at w ⊢
        exact wpAny_pure ⟨plainId_quiet F.plain_any_loop _, ih i' gs' s' ⟨c, σ, H, I, st, hn, w⟩ hg' kap⟩
      | true =>
        simp only [if_true] at w ⊢
        exact wpAny_bind (wpAny_rule (wpAny_pure (hF c σ H s' I w)))
end
end Sh

/-! Shift layer: the making of a generator; all, any of one. -/
namespace Sh
open PySem PySem.Spec PyProof.Rows L2
/-- what is asked of the generator's scope beyond BlkOk -/
structure GenOk (scope : Scope) : Prop where
  co : scope.isCoroutine = false
  cell : ∀ y ∈ scope.names, y.2 ≠ .cell
  dot : scope.names.lookup (".0" : Str) = some NameKind.local
def genC (scope : Scope) : Bool := !scope.isCoroutine && scope.names.all (fun y => !decide (y.2 = .cell)) && decide (scope.names.lookup (".0" : Str) = some NameKind.local)
theorem genOk_by {scope : Scope} (h : genC scope = true) : GenOk scope := by
  unfold genC at h
  simp only [Bool.and_eq_true, Bool.not_eq_true', decide_eq_true_eq, List.all_eq_true, decide_eq_false_iff_not] at h
  exact ⟨h.1.1, h.1.2, h.2⟩
section
variable {tg iter elt : Expr} {ifs : List Expr} {scope : Scope} {gpos : Pos} {fp : List Addr} {it g R0 : Addr} {og : Obj} {tn : Nat → Heap → Prop} {J : It}
theorem seg_gstart {X : Cx} {A : Around} {s3 : Shared} {H3 : Hp} {cenv : Env} {gt : TG} {tt : TT} {te : TE} {W : Obj → Nat → Nat → L2.St → Hp → Prop} {WY : Obj → Nat → Nat → V → L2.St → Hp → Prop} {WD : Obj → Hp → Prop} {rem : Nat → Nat} {Y : Cx}
    (hY : Y = genCx X (A.over (.compLoop (.GeneratorExp elt [⟨tg, iter, ifs, 0⟩] scope gpos) 0 (.ref it) .none cenv) []) s3 H3 cenv fp)
    (T : Turn X.prog X.w X.K tg J fp it tn) (pg : PG Y tg gt) (pt : PTs Y ifs tt) (pe : PE Y elt te) (GT : GTurn J gt tt te W WY WD rem) (hco : cenv.scope.isCoroutine = false) (hgf : g ∉ fp) (hrf : R0 ∉ fp)
    {n : Nat} {s0 s : Shared} (hst : GSt Y fp tn g R0 og 0 (fun c σ H => W c n 0 σ H) s) (h0 : s.heap.get? R0 = s0.heap.get? R0) :
      Seg (model X.prog X.w) A (fun n s0 r s => r = .ok .next ∧ gEnd Y g R0 og WD n s0 s) (gProto Y fp tn g R0 og W WY) n s0 (.compStart (.GeneratorExp elt [⟨tg, iter, ifs, 0⟩] scope gpos) 0 (.ref it) .none cenv)
        ((model X.prog X.w).den (.compStart (.GeneratorExp elt [⟨tg, iter, ifs, 0⟩] scope gpos) 0 (.ref it) .none cenv)) [] s := by
  have loop := seg_gloop hY T pg pt pe GT hco hgf hrf (rem 0) n 0 s0 s (Nat.le_refl _) hst h0
  obtain ⟨c, σ, H, I, st, hn, w⟩ := hst
  show Seg _ A _ _ _ s0 _ ((compStart (.GeneratorExp elt [⟨tg, iter, ifs, 0⟩] scope gpos) 0 (.ref it) .none cenv).onRaise (leaving cenv)) [] s
  unfold compStart
  rw [Sem.onRaise_eq_wrap]
  show Seg _ A _ _ _ s0 _ ((ask >>= _).wrap _ _ _ _) [] s
  refine seg_bind_wrap (wpAny_askSetting ?_)
  split
  · exact seg_again rfl loop
  · first
      | exact seg_bind_wrap (wpAny_rule (seg_bind_wrap (wpAny_standAt (seg_bind_wrap (T.self _ 0 s _ _ st (seg_again rfl loop))))))
      | (refine seg_bind_wrap (wpAny_rule ?_); show Seg _ A _ _ _ s0 _ ((standAt iter.pos >>= _).wrap _ _ _ _) [] s; exact seg_bind_wrap (wpAny_standAt (seg_bind_wrap (T.self _ 0 s _ _ st (seg_again rfl loop)))))
end
section
variable {X : Cx} {pins : List (Addr × Obj)} {σ : L2.St} {H : Hp} {s : Shared}
/-- the generator g stands, unstarted, in s5; it was made at s4 -/
structure Made (X : Cx) (pins : List (Addr × Obj)) (σ : L2.St) (vs : List Nat) (elt tg iter : Expr) (ifs : List Expr) (scope : Scope) (gpos : Pos) (J : It) (H2 : Hp) (g : Addr) (s5 : Shared) (fp : List Addr) (it : Addr) (tn : Nat → Heap → Prop) (s4 : Shared) (code : Value) (gi : Nat) (nm qn : Value) : Prop where
  inv : Inv X pins σ H2 s4
  fpo : ∀ b ∈ fp, FpOk X pins H2 b ∧ b < s4.heap.objs.size
  turn : Turn X.prog X.w X.K tg J fp it tn
  st : tn 0 s5.heap
  size : g < s5.heap.objs.size ∧ s4.heap.objs.size < g
  last : s5.heap.objs.size = g + 1
  gen : s5.heap.get? g = some { cls := .type "generator", data := .fields #[.int gi 0, nm, qn] }
  gens : s5.gens[gi]? = some (.fresh (.compStart (.GeneratorExp elt [⟨tg, iter, ifs, 0⟩] scope gpos) 0 (.ref it) .none (gEnv X scope s4.heap.objs.size code)))
  start : ∀ A : Around, A.handled = none → A.frames = some (gEnv X scope s4.heap.objs.size code :: X.stack) → Inv (genCx X A s4 H2 (gEnv X scope s4.heap.objs.size code) fp) [(g, { cls := .type "generator", data := .fields #[.int gi 0, nm, qn] })] (wipe σ vs) H2 s5
theorem gen_make {c P : Addr} {own : List (Str × Nat)} {tg iter elt : Expr} {ifs : List Expr} {scope : Scope} {gpos : Pos} {wi : TI} {k : Nat} {Q' : Value → Shared → Prop} {R : It → Hp → Prop}
    (hr : Room k X.A) (TB : GxR.TabB X.base X.mg c P) (hcode : X.env.code = .ref c) (hN : X.N.Nodup) (ok : BlkOk X.N X.env.scope scope own) (go : GenOk scope) (hi : PI X tg iter wi)
    (hs : ∀ v, genFold iter X.env v = pure v) (I : Inv X pins σ H s) (h : wi σ H fun J H1 => GxR.TabG H1 P ∧ R J H1)
    (hQ : ∀ J H1 H2 fp it tn s4 code gi nm qn g s5, R J H1 → GxR.Tabbed P H1 H2 → Made X pins σ (own.map (·.2)) elt tg iter ifs scope gpos J H2 g s5 fp it tn s4 code gi nm qn → Q' (.ref g) s5) :
    wpAny (model X.prog X.w) X.A (eval (.GeneratorExp elt [⟨tg, iter, ifs, 0⟩] scope gpos) X.env) Q' X.xe s := by
  have hfree : ∀ y ∈ scope.names, y.2 = .free → ∃ c, X.env.cells.lookup y.1 = some c := fun y hy e => by
    rcases ok.free y hy e with k | k
    · exact I.ok.has _ (.inl k)
    · exact I.ok.has _ (.inr k)
  refine wpAny_GeneratorExp_make go.co (closure_ok hfree) go.cell go.dot ok.kind (by have := hr.dp; omega) ?_ hs
  refine thn (hi.run pins s σ H _ I h) fun xv s1 hx => thn hx fun itv s2 h2 => ?_
  obtain ⟨it, fp, tn, J, H1, e, I2, T, st2, f2, ⟨ps, hP, ht⟩, q⟩ := h2
  subst e
  have hPs : s2.heap.get? P = some { cls := .none, data := .fields ps } := I2.hok P _ hP
  have cd : PySem.W.CodeHd s2.heap c P := TB.code.keeps fun b u e => I2.bk b u e
  have lim2 : s2.heap.NoLimit := I2.nolimit
  have sz : ∀ b ∈ fp, b < s2.heap.objs.size := fun b hb => by
    obtain ⟨o, e, _⟩ := T.obj _ _ st2 b hb
    exact Heap.lt_size e
  have cont : ∀ (code : Value) (h3 : Heap) (tk : Nat) (ps' : Array Value), Heap.ExtBut P s2.heap h3 → s2.heap.objs.size ≤ h3.objs.size → h3.get? P = some { cls := .none, data := .fields ps' } → (∃ more, ps' = ps ++ more) → TriplesOk ps'.toList →
      wpAny (model X.prog X.w) X.A (builtinsFor X.env.globals X.env.builtins) (fun bi s₄ =>
        ∀ h', h'.Ns s₄.heap.objs.size (fun y => if y = ".0" then some (.ref it) else none) → Heap.SameBut s₄.heap.objs.size (s₄.heap.push { cls := .type "frame", data := .dict #[] }) h' →
          Q' (.ref h'.objs.size) { s₄ with
            gens := s₄.gens.push (.fresh (.compStart (.GeneratorExp elt [⟨tg, iter, ifs, 0⟩] scope gpos) 0 (.ref it) .none (genEnv scope (cloFrom X.env.cells scope.names []) s₄.heap.objs.size code bi X.env))),
            toks := s₄.toks + 1 + 1 + 1,
            heap := h'.push { cls := .type "generator", data := .fields #[.int s₄.gens.size 0, .str "<genexpr>" (s₄.toks + 1), .str (X.env.qual ++ "<genexpr>") (s₄.toks + 1 + 1)] } }) X.xe { s2 with heap := h3, toks := tk } := by
    intro code h3 tk ps' hx hsz hP3 hmore ht3
    obtain ⟨bm, ob, e1, e2, e3, e4, e5, e6, e7, e8⟩ := TB.bm
    have keep3 : ∀ b u, b ≠ P → s2.heap.get? b = some u → h3.get? b = some u := fun b u hb e => hx b u hb e
    refine wpAny_builtinsFor (m := X.mg) (by rw [I2.ok.glob]; exact (I2.mod.glob.keeps I2.bk).extBut hx TB.gP) e1 e2 (keep3 _ _ e4 (I2.bk _ _ e5)) e6 e7 e8 ?_
    intro h' hn' hs'
    obtain ⟨more, em⟩ := hmore
    have I4 : Inv X pins σ (upd H1 P (.tbl ps')) { s2 with heap := h3, toks := tk } := by
      rw [em]
      exact GxR.inv_tab (more := more) (h' := h3) (g' := s2.gens) (d' := s2.drawn) (t' := tk) I2 hP keep3 (by rw [← em]; exact hP3) I2.bare
    have hsz5 : h'.objs.size = h3.objs.size + 1 := by rw [hs'.1, Heap.size_push]
    have keep' : ∀ b o, h3.get? b = some o → h'.get? b = some o := fun b o e => hs'.extBut b o (Nat.ne_of_lt (Heap.lt_size e)) (Heap.get?_push_of_some _ e)
    have nfp : ∀ b ∈ fp, b ≠ P := fun b hb z => by
      have := (f2 b hb).1
      rw [z, hP] at this
      cases this
    have f4 : ∀ b ∈ fp, FpOk X pins (upd H1 P (.tbl ps')) b ∧ b < h3.objs.size := fun b hb => ⟨⟨by rw [upd_ne (nfp b hb)]; exact (f2 b hb).1, (f2 b hb).2⟩, Nat.lt_of_lt_of_le (sz b hb) hsz⟩
    have st5 : ∀ (og : Obj), tn 0 (h'.push og) := fun og => T.keep _ _ _ st2 fun b hb o e => Heap.get?_push_of_some _ (keep' b o (keep3 b o (nfp b hb) e))
    have hlt5 : h'.objs.size < (h'.push { cls := .type "generator", data := .fields #[.int s2.gens.size 0, .str "<genexpr>" (tk + 1), .str (X.env.qual ++ "<genexpr>") (tk + 1 + 1)] }).objs.size := by
      rw [Heap.size_push]
      exact Nat.lt_succ_self _
    refine hQ J H1 (upd H1 P (.tbl ps')) fp it tn { s2 with heap := h3, toks := tk } code s2.gens.size _ _ h'.objs.size _ q ⟨⟨ps', upd_same, ht3⟩, fun b hb => upd_ne hb⟩ ⟨I4, f4, T, st5 _, ⟨hlt5, by show h3.objs.size < _; omega⟩, by show (h'.push _).objs.size = _; rw [Heap.size_push], Heap.get?_push_size _ rfl, Array.getElem?_push_size .., fun A hA hfr => ?_⟩
    have J5 := gen_start (s5 := { s2 with gens := s2.gens.push (.fresh (.compStart (.GeneratorExp elt [⟨tg, iter, ifs, 0⟩] scope gpos) 0 (.ref it) .none (gEnv X scope h3.objs.size code))), toks := tk + 1 + 1 + 1, heap := h'.push { cls := .type "generator", data := .fields #[.int s2.gens.size 0, .str "<genexpr>" (tk + 1), .str (X.env.qual ++ "<genexpr>") (tk + 1 + 1)] } }) (code := code)
      f4 I4 hN ok go.cell hA hfr (hn'.push _) (fun b o e => Heap.get?_push_of_some _ (keep' b o e)) rfl (I4.bare.push rfl)
    refine J5.pins_of fun p hp => ?_
    rcases List.mem_cons.mp hp with e | hp
    · subst e
      refine ⟨Heap.get?_push_size _ rfl, I4.hok.fresh (by show h3.objs.size ≤ _; omega), ?_, fun z => ?_, fun v z => by cases z⟩
      · show h'.objs.size ≠ h3.objs.size
        omega
      · have z : h'.objs.size ∈ frs X.stack := z
        rcases List.mem_cons.mp (I4.stkSub _ z) with e | e
        · have := I4.lt
          have h9 : X.env.locals < h3.objs.size := this
          rw [← e] at h9
          exact absurd (show (h'.objs.size : Nat) < h3.objs.size from h9) (by omega)
        · exact I4.nofs (show h3.objs.size ≤ _ by omega) e
    · cases hp
  refine ⟨lim2, ?_⟩
  cases hf : codeAmong gpos ps.toList with
  | none =>
    refine wpAny_genexprCodeX hcode (cd.code hPs ht) (cd.tab hPs) hf fun c' h' tk hx hge hlt hco' _ htab' _ => ?_
    obtain ⟨o1, vs, f1, tf, fl, tg', inF, tx, tt, op, _, _, _, _, _, _, _, _, _, htr, _⟩ := hco'
    exact cont _ h' tk _ hx (Nat.le_trans hge (Nat.le_of_lt hlt)) htab'.2 ⟨_, rfl⟩ htr
  | some cv =>
    refine wpAny_genexprCode_hit hcode (cd.code hPs ht) hf ?_
    exact cont cv s2.heap s2.toks ps (Heap.ExtBut.refl _ _) (Nat.le_refl _) hPs ⟨#[], by simp⟩ ht

/-! ### all(..), any(..) -/
/-- a reading that holds in every generator's context -/
def AllGen (X : Cx) (k : Nat) (scope : Scope) (Pr : Cx → Prop) : Prop := ∀ (A : Around) (s : Shared) (H : Hp) (L : Addr) (code : Value) (fp : List Addr), Room k A → Pr (genCx X A s H (gEnv X scope L code) fp)
def tGenT (P : Addr) (wi : TI) (gt : TG) (tt : TT) (te : TE) (vs : List Nat) (WY : (V → Hp → Prop) → (Nat → Nat → L2.St → Hp → Prop) → Nat → Nat → V → L2.St → Hp → Prop) (e : V) : TE := fun σ H Q => wi σ H fun J H1 => GxR.TabG H1 P ∧ ∀ H2, GxR.Tabbed P H1 H2 → ∃ (W : Nat → Nat → L2.St → Hp → Prop) (rem : Nat → Nat) (n : Nat), W n 0 (wipe σ vs) H2 ∧
  GTurn J gt tt te (fun _ => W) (fun _ => WY Q W) (fun _ H => Q e H) rem
def wAll (Q : V → Hp → Prop) (W : Nat → Nat → L2.St → Hp → Prop) : Nat → Nat → V → L2.St → Hp → Prop := fun m i x σ H => ∃ b, x = .bl b ∧ if b = true then W m i σ H else Q (.bl false) H
def wAny (Q : V → Hp → Prop) (W : Nat → Nat → L2.St → Hp → Prop) : Nat → Nat → V → L2.St → Hp → Prop := fun m i x σ H => ∃ b, x = .bl b ∧ if b = true then Q (.bl true) H else W m i σ H
theorem room_gen {k : Nat} {A : Around} {c : Code} (r : Room (k + 1) A) (hw : c.weight = 1) (hu : c.cUnits = 3) : Room k (A.in1.in1.over c []) := by
  refine ⟨r.hd, ?_, ?_⟩
  · have := r.dp
    show A.depth + frameCount [] + c.weight + 3 * k + 5 < _
    rw [hw]
    show A.depth + 0 + 1 + 3 * k + 5 < _
    omega
  · have := r.un
    show A.units + 1 + 1 + unitsOf [] + c.cUnits + 16 * k + 200 < _
    rw [hu]
    show A.units + 1 + 1 + 0 + 3 + 16 * k + 200 < _
    omega
theorem pe_all {c P : Addr} {own : List (Str × Nat)} {tg iter elt : Expr} {ifs : List Expr} {scope : Scope} {p pos gpos : Pos} {wi : TI} {gt : TG} {tt : TT} {te : TE} {k : Nat} (hr : Room (k + 1) X.A) (hg : Gl X "all") (hm : X.mg "all" = none) (TB : GxR.TabB X.base X.mg c P) (hcode : X.env.code = .ref c)
    (hN : X.N.Nodup) (ok : BlkOk X.N X.env.scope scope own) (go : GenOk scope) (hi : PI X tg iter wi) (hs : ∀ v, genFold iter X.env v = pure v)
    (pg : AllGen X k scope fun Y => PG Y tg gt) (pt : AllGen X k scope fun Y => PTs Y ifs tt) (pe : AllGen X k scope fun Y => PE Y elt te)
    (he : starEach [.GeneratorExp elt [⟨tg, iter, ifs, 0⟩] scope gpos] X.env = (false, eval (.GeneratorExp elt [⟨tg, iter, ifs, 0⟩] scope gpos) X.env) :: starEach [] X.env := by rfl) :
    PE X (.Call (.Name "all" p) [.GeneratorExp elt [⟨tg, iter, ifs, 0⟩] scope gpos] [] pos) (tGenT P wi gt tt te (own.map (·.2)) wAll (.bl true)) := by
  refine ⟨fun pins s σ H Q I h => ?_⟩
  refine wpAny_Call_Name_kw (ld_blt I hg hm (by rfl) ?_)
  refine PyProof.Rows.callWith_builtin1 ?_ he (by rfl)
  rw [he]
  show wpAny _ _ (spliced ((false, eval (.GeneratorExp elt [⟨tg, iter, ifs, 0⟩] scope gpos) X.env) :: backTo pos (starEach [] X.env))) _ _ s
  refine Calls.spliced_cons (gen_make hr TB hcode hN ok go hi hs I h fun J H1 H2 fp it tn s4 code gi nm qn g s5 hR hT M => ?_)
  obtain ⟨W, rem, n, w0, GT⟩ := hR H2 hT
  refine Calls.spliced_nil ?_
  have hA : (X.A.in1.in1.over (.compLoop (.GeneratorExp elt [⟨tg, iter, ifs, 0⟩] scope gpos) 0 (.ref it) .none (gEnv X scope s4.heap.objs.size code)) []).frames = some (gEnv X scope s4.heap.objs.size code :: X.stack) := by
    show pushEnvs [gEnv X scope s4.heap.objs.size code] X.A.frames = _
    rw [I.ok.frames]
    rfl
  have hrA : Room k (X.A.in1.in1.over (.compLoop (.GeneratorExp elt [⟨tg, iter, ifs, 0⟩] scope gpos) 0 (.ref it) .none (gEnv X scope s4.heap.objs.size code)) []) := room_gen hr rfl rfl
  have I5 := M.start _ hrA.hd hA
  have nf : g ∉ fp := fun z => by
    have h1 := (M.fpo g z).2
    exact absurd (Nat.lt_trans h1 M.size.2) (Nat.lt_irrefl _)
  have I6 := I5.pins_of (pins' := [(g, { cls := .type "generator", data := .fields #[.int gi 0, nm, qn] }), (g, { cls := .type "generator", data := .fields #[.int gi 0, nm, qn] })]) fun q hq => I5.pin q (by
    rcases List.mem_cons.mp hq with e | hq
    · rw [e]
      exact List.mem_append_right _ (by simp)
    · rcases List.mem_cons.mp hq with e | hq
      · rw [e]
        exact List.mem_append_right _ (by simp)
      · cases hq)
  have back : ∀ {c' : Obj} {σ' : L2.St} {H' : Hp} {s' : Shared} {b : Bool}, Inv (genCx X (X.A.in1.in1.over (.compLoop (.GeneratorExp elt [⟨tg, iter, ifs, 0⟩] scope gpos) 0 (.ref it) .none (gEnv X scope s4.heap.objs.size code)) []) s4 H2 (gEnv X scope s4.heap.objs.size code) fp) [(g, { cls := .type "generator", data := .fields #[.int gi 0, nm, qn] }), (g, c')] σ' H' s' → Q (.bl b) H' → L2.EP X pins σ Q (.bool b) s' := fun {c' σ' H' s' b} I' q =>
    ⟨.bl b, H', M.inv.call' (ch := fp) I'.os I'.base I'.hok I'.bare fun b hb => ⟨(M.fpo b hb).1.2.2.2.1, (M.fpo b hb).1.2.1, (M.fpo b hb).1.2.2.2.2.1, (M.fpo b hb).1.2.2.2.2.2⟩, rfl, q⟩
  refine call_function_tree F.kind_all F.plain_all F.entry_all (F.args_all1 _) ?_
  unfold Builtin.«all»
  refine wpAny_bind (m := oneArg "all" _) (wpAny_pure ?_)
  refine wpAny_bind (wpAny_pyIter_gen ⟨_, nm, qn, M.gen, rfl, rfl, rfl⟩ ?_)
  refine wpAny_pure ⟨plainId_quiet F.plain_all_loop _, ?_⟩
  refine all_gloop (X := X) (A := X.A) (W := fun _ => W) (QT := fun H => Q (.bl true) H) (QF := fun H => Q (.bl false) H) hr.hd (by have := hr.dp; show X.A.depth < _; omega) rfl (fun c' σ' H' s' I' q => ?_) (fun c' σ' H' s' I' q => ?_) n 0 _ s5 ⟨_, _, H2, I6, M.st, fun b hb => (M.fpo b hb).1.1, w0⟩ M.gens fun s'' hs'' => ?_
  · exact back I' q
  · exact back I' q
  · refine ⟨rfl, ?_⟩
    refine seg_gstart (A := X.A.in1.in1) rfl M.turn (pg _ _ _ _ _ _ hrA) (pt _ _ _ _ _ _ hrA) (pe _ _ _ _ _ _ hrA) GT go.co nf nf hs'' rfl
theorem pe_any {c P : Addr} {own : List (Str × Nat)} {tg iter elt : Expr} {ifs : List Expr} {scope : Scope} {p pos gpos : Pos} {wi : TI} {gt : TG} {tt : TT} {te : TE} {k : Nat} (hr : Room (k + 1) X.A) (hg : Gl X "any") (hm : X.mg "any" = none) (TB : GxR.TabB X.base X.mg c P) (hcode : X.env.code = .ref c)
    (hN : X.N.Nodup) (ok : BlkOk X.N X.env.scope scope own) (go : GenOk scope) (hi : PI X tg iter wi) (hs : ∀ v, genFold iter X.env v = pure v)
    (pg : AllGen X k scope fun Y => PG Y tg gt) (pt : AllGen X k scope fun Y => PTs Y ifs tt) (pe : AllGen X k scope fun Y => PE Y elt te)
    (he : starEach [.GeneratorExp elt [⟨tg, iter, ifs, 0⟩] scope gpos] X.env = (false, eval (.GeneratorExp elt [⟨tg, iter, ifs, 0⟩] scope gpos) X.env) :: starEach [] X.env := by rfl) :
    PE X (.Call (.Name "any" p) [.GeneratorExp elt [⟨tg, iter, ifs, 0⟩] scope gpos] [] pos) (tGenT P wi gt tt te (own.map (·.2)) wAny (.bl false)) := by
  refine ⟨fun pins s σ H Q I h => ?_⟩
  refine wpAny_Call_Name_kw (ld_blt I hg hm (by rfl) ?_)
  refine PyProof.Rows.callWith_builtin1 ?_ he (by rfl)
  rw [he]
  show wpAny _ _ (spliced ((false, eval (.GeneratorExp elt [⟨tg, iter, ifs, 0⟩] scope gpos) X.env) :: backTo pos (starEach [] X.env))) _ _ s
  refine Calls.spliced_cons (gen_make hr TB hcode hN ok go hi hs I h fun J H1 H2 fp it tn s4 code gi nm qn g s5 hR hT M => ?_)
  obtain ⟨W, rem, n, w0, GT⟩ := hR H2 hT
  refine Calls.spliced_nil ?_
  have hA : (X.A.in1.in1.over (.compLoop (.GeneratorExp elt [⟨tg, iter, ifs, 0⟩] scope gpos) 0 (.ref it) .none (gEnv X scope s4.heap.objs.size code)) []).frames = some (gEnv X scope s4.heap.objs.size code :: X.stack) := by
    show pushEnvs [gEnv X scope s4.heap.objs.size code] X.A.frames = _
    rw [I.ok.frames]
    rfl
  have hrA : Room k (X.A.in1.in1.over (.compLoop (.GeneratorExp elt [⟨tg, iter, ifs, 0⟩] scope gpos) 0 (.ref it) .none (gEnv X scope s4.heap.objs.size code)) []) := room_gen hr rfl rfl
  have I5 := M.start _ hrA.hd hA
  have nf : g ∉ fp := fun z => by
    have h1 := (M.fpo g z).2
    exact absurd (Nat.lt_trans h1 M.size.2) (Nat.lt_irrefl _)
  have I6 := I5.pins_of (pins' := [(g, { cls := .type "generator", data := .fields #[.int gi 0, nm, qn] }), (g, { cls := .type "generator", data := .fields #[.int gi 0, nm, qn] })]) fun q hq => I5.pin q (by
    rcases List.mem_cons.mp hq with e | hq
    · rw [e]
      exact List.mem_append_right _ (by simp)
    · rcases List.mem_cons.mp hq with e | hq
      · rw [e]
        exact List.mem_append_right _ (by simp)
      · cases hq)
  have back : ∀ {c' : Obj} {σ' : L2.St} {H' : Hp} {s' : Shared} {b : Bool}, Inv (genCx X (X.A.in1.in1.over (.compLoop (.GeneratorExp elt [⟨tg, iter, ifs, 0⟩] scope gpos) 0 (.ref it) .none (gEnv X scope s4.heap.objs.size code)) []) s4 H2 (gEnv X scope s4.heap.objs.size code) fp) [(g, { cls := .type "generator", data := .fields #[.int gi 0, nm, qn] }), (g, c')] σ' H' s' → Q (.bl b) H' → L2.EP X pins σ Q (.bool b) s' := fun {c' σ' H' s' b} I' q =>
    ⟨.bl b, H', M.inv.call' (ch := fp) I'.os I'.base I'.hok I'.bare fun b hb => ⟨(M.fpo b hb).1.2.2.2.1, (M.fpo b hb).1.2.1, (M.fpo b hb).1.2.2.2.2.1, (M.fpo b hb).1.2.2.2.2.2⟩, rfl, q⟩
  refine call_function_tree F.kind_any F.plain_any F.entry_any (F.args_any1 _) ?_
  unfold Builtin.«any»
  refine wpAny_bind (m := oneArg "any" _) (wpAny_pure ?_)
  refine wpAny_bind (wpAny_pyIter_gen ⟨_, nm, qn, M.gen, rfl, rfl, rfl⟩ ?_)
  refine wpAny_pure ⟨plainId_quiet F.plain_any_loop _, ?_⟩
  refine any_gloop (X := X) (A := X.A) (W := fun _ => W) (QT := fun H => Q (.bl false) H) (QF := fun H => Q (.bl true) H) hr.hd (by have := hr.dp; show X.A.depth < _; omega) rfl (fun c' σ' H' s' I' q => ?_) (fun c' σ' H' s' I' q => ?_) n 0 _ s5 ⟨_, _, H2, I6, M.st, fun b hb => (M.fpo b hb).1.1, w0⟩ M.gens fun s'' hs'' => ?_
  · exact back I' q
  · exact back I' q
  · refine ⟨rfl, ?_⟩
    refine seg_gstart (A := X.A.in1.in1) rfl M.turn (pg _ _ _ _ _ _ hrA) (pt _ _ _ _ _ _ hrA) (pe _ _ _ _ _ _ hrA) GT go.co nf nf hs'' rfl
end
end Sh

/-! Shift layer: all(..), any(..) of a generator as judgements; defs with a table. -/
namespace Sh
open PySem PySem.Spec PyProof.Rows L2
/-! ### the plain meaning -/
/-- all: stop = false; any: stop = true -/
def genLoop (own : List Nat) (tg : Tg) (cond : ExB) (elt : Ex) (stop : Bool) : List D → Ev → Option (Bool × Ev)
  | [], e => some (!stop, e)
  | x :: xs, e => (tg x e).bind fun e1 => (cond e1).bind fun p =>
    if p.1 = true then (elt p.2).bind fun q => (oBool q.1).bind fun b => if b = stop then some (stop, wipeE q.2 own) else genLoop own tg cond elt stop xs (wipeE q.2 own)
    else genLoop own tg cond elt stop xs (wipeE p.2 own)
@[simp] def eGenB (own : List Nat) (it : ExI) (tg : Tg) (cond : ExB) (elt : Ex) (stop : Bool) : Ex := fun e => (it e).bind fun p => if p.1.length ≤ 1000000 ∧ plainE p.2 own = true then
  (genLoop own tg cond elt stop p.1 (wipeE p.2 own)).bind fun r => some (.d (.bool r.1), backE p.2 r.2 own) else none

/-! ### relations -/
theorem sep_tab {T : TabsT} {G H H' : Hp} {L : List Cell} {P : Addr} (S : Sep T G H L) (hP : (P, none) ∈ T.1) (t : GxR.Tabbed P H H') : Sep T G H' L := by
  obtain ⟨t1, t2⟩ := t
  have nP : ∀ b, G b ≠ none → b ≠ P := fun b h z => h (by rw [z]; exact (S.tab _ hP).2.1)
  refine ⟨S.nd, fun c hc => ⟨?_, (S.at_ c hc).2⟩, ?_, fun P' hP' => ⟨?_, (S.tab P' hP').2⟩, S.uq, S.kn, S.nt⟩
  · rw [t2 c.1 ((S.tab _ hP).2.2 c hc)]
    exact (S.at_ c hc).1
  · exact fun b x e => by
      rw [t2 b (nP b (by rw [e]; simp))]
      exact S.same b x e
  · by_cases h : P'.1 = P
    · rw [S.uq P' hP' (P, none) hP h]
      exact t1
    · have g := (S.tab P' hP').1
      obtain ⟨P', q⟩ := P'
      obtain ⟨ps0, hp0, _⟩ := (S.tab _ hP).1
      cases q with
      | none =>
        obtain ⟨ps, a, b⟩ := g
        exact ⟨ps, by rw [t2 P' h]; exact a, b⟩
      | some q =>
        obtain ⟨ps, h1, h2, h3⟩ := g
        refine ⟨ps, by rw [t2 P' h]; exact h1, h2, fun pos cv hc => ?_⟩
        obtain ⟨c, e1, e2⟩ := h3 pos cv hc
        refine ⟨c, e1, ?_⟩
        rw [t2 c]
        · exact e2
        · intro z
          rw [z, hp0] at e2
          cases e2

theorem wipeE_id : ∀ {vs : List Nat} {e : Ev}, (∀ j ∈ vs, slot e j = none) → wipeE e vs = e
  | [], _, _ => rfl
  | v :: vs, e, h => by
    unfold wipeE
    rw [wipeE_id (vs := vs) fun j hj => h j (List.mem_cons_of_mem _ hj)]
    have h1 := h v List.mem_cons_self
    cases hq : e[v]? with
    | none => exact set_none' hq
    | some q =>
      unfold slot at h1
      rw [hq] at h1
      have h1 : q = none := h1
      subst h1
      exact set_self hq
theorem backE_id : ∀ {vs : List Nat} {e : Ev}, (∀ j ∈ vs, slot e j = none) → backE e e vs = e
  | [], _, _ => rfl
  | v :: vs, e, h => by
    unfold backE
    have h1 := h v List.mem_cons_self
    have e1 : e.set v (slot e v) = e := by
      rw [h1]
      cases hq : e[v]? with
      | none => exact set_none' hq
      | some q =>
        unfold slot at h1
        rw [hq] at h1
        have h1 : q = none := h1
        subst h1
        exact set_self hq
    rw [e1]
    exact backE_id (vs := vs) fun j hj => h j (List.mem_cons_of_mem _ hj)
theorem plainE_none : ∀ {vs : List Nat} {e : Ev}, (∀ j ∈ vs, slot e j = none) → plainE e vs = true
  | [], _, _ => rfl
  | v :: vs, e, h => by
    unfold plainE
    rw [h v List.mem_cons_self, plainE_none (vs := vs) fun j hj => h j (List.mem_cons_of_mem _ hj)]
    rfl
/-- the wiped slots may hold anything -/
theorem rel_unwipe {K : PySem.W.Frag} {G : Hp} {σ : St} {e : Ev} {L : List Cell} {vs : List Nat} (hnd : vs.Nodup) (hw : ∀ j ∈ vs, slot e j = none) (h : RelS K G e (wipe σ vs) L) : ∃ L', RelS K G e σ L' ∧ Sub L' L := by
  have hd : ∀ v x, slot e v = some (.d x) → ∃ u, σ[v]? = some (some u) ∧ Dq K G u x := fun v x hv => by
    obtain ⟨u, c, h1, h2, _⟩ := rel_get h hv
    have hn : v ∉ vs := fun z => by
      rw [hw v z] at hv
      cases hv
    rw [wipe_get, if_neg hn] at h1
    cases h2 with
    | d h2 => exact ⟨u, h1, h2⟩
  obtain ⟨L', a, b⟩ := rel_back (old := e) (σ := σ) vs hnd (plainE_none hw) hd h
  rw [backE_id hw] at a
  exact ⟨L', a, b⟩
section
variable {X : Cx} {T : TabsT} {k : Nat} {scope : Scope}
theorem gen_e {elt : Expr} {fe : Ex} (he : AllGen X k scope fun Y => EV Y T elt fe) :
    ∃ te : TE, AllGen X k scope (fun Y => PE Y elt te) ∧ ∀ (env : Ev) (o : O) (env' : Ev), fe env = some (o, env') → ∀ (G : Hp) (σ : St) (H : Hp) (L Lx : List Cell), RelS X.K G env σ L → Sep T G H (L ++ Lx) →
      ∀ Q : VK, PostE X T Lx G σ o env' Q → te σ H Q := by
  refine ⟨fun σ H Q => ∀ (A : Around) (s0 : Shared) (H0 : Hp) (C : Addr) (code : Value) (fp : List Addr) (pins : List (Addr × Obj)) (s : Shared), Room k A → Inv (genCx X A s0 H0 (gEnv X scope C code) fp) pins σ H s →
    wpAny (model X.prog X.w) A (eval elt (gEnv X scope C code)) (L2.EP (genCx X A s0 H0 (gEnv X scope C code) fp) pins σ Q) (fun _ _ => False) s, fun A s0 H0 C code fp hr => ⟨fun pins s σ H Q I h => h A s0 H0 C code fp pins s hr I⟩, fun env o env' hf G σ H L Lx hR hS Q hQ A s0 H0 C code fp pins s hr I => ?_⟩
  obtain ⟨t, p, h⟩ := he A s0 H0 C code fp hr
  exact p.run pins s σ H Q I (h env o env' hf G σ H L Lx hR hS Q hQ)
theorem gen_b {elt : Expr} {fe : ExB} (he : AllGen X k scope fun Y => BV Y T elt fe) :
    ∃ te : TT, AllGen X k scope (fun Y => PT Y elt te) ∧ BImp X T fe te := by
  refine ⟨fun σ H Q => ∀ (A : Around) (s0 : Shared) (H0 : Hp) (C : Addr) (code : Value) (fp : List Addr) (pins : List (Addr × Obj)) (s : Shared), Room k A → Inv (genCx X A s0 H0 (gEnv X scope C code) fp) pins σ H s →
    wpAny (model X.prog X.w) A (isTrue elt (gEnv X scope C code) (eval elt (gEnv X scope C code))) (TP (genCx X A s0 H0 (gEnv X scope C code) fp) pins σ Q) (fun _ _ => False) s, fun A s0 H0 C code fp hr => ⟨fun pins s σ H Q I h => h A s0 H0 C code fp pins s hr I⟩, fun env o env' hf G σ H L Lx hR hS Q hQ A s0 H0 C code fp pins s hr I => ?_⟩
  obtain ⟨t, p, h⟩ := he A s0 H0 C code fp hr
  exact p.run pins s σ H Q I (h env o env' hf G σ H L Lx hR hS Q hQ)
def GImp (X : Cx) (T : TabsT) (ns : List Nat) (tt : Tg) (g : TG) : Prop := ∀ (x : D) (env env' : Ev), tt x env = some env' → ∀ (G : Hp) (σ : St) (H : Hp) (L Lx : List Cell) (v : V), Dq X.K G v x → RelS X.K G env σ L → Sep T G H (L ++ Lx) →
      ∀ Q : St → Hp → Prop, (∀ (σ' : St) (L' : List Cell), (∀ j, j ∉ ns → σ'[j]? = σ[j]?) → σ'.length = σ.length → RelS X.K G env' σ' L' → Sep T G H (L' ++ Lx) → Q σ' H) → g v σ H Q
theorem gen_g {tg : Expr} {ns : List Nat} {tt : Tg} (he : AllGen X k scope fun Y => GV Y T tg ns tt) : ∃ g : TG, AllGen X k scope (fun Y => PG Y tg g) ∧ GImp X T ns tt g := by
  refine ⟨fun v σ H Q => ∀ (A : Around) (s0 : Shared) (H0 : Hp) (C : Addr) (code : Value) (fp : List Addr) (pins : List (Addr × Obj)) (s : Shared) (u : Value), Room k A → Inv (genCx X A s0 H0 (gEnv X scope C code) fp) pins σ H s → RelV v u →
    wpAny (model X.prog X.w) A (assign tg (gEnv X scope C code) u) (fun _ s' => ∃ σ' H', Inv (genCx X A s0 H0 (gEnv X scope C code) fp) pins σ' H' s' ∧ Q σ' H') (fun _ _ => False) s, fun A s0 H0 C code fp hr => ⟨fun pins s σ H v u Q I r h => h A s0 H0 C code fp pins s u hr I r⟩, fun x env env' hf G σ H L Lx v hd hR hS Q hQ A s0 H0 C code fp pins s u hr I r => ?_⟩
  obtain ⟨t, p, h⟩ := he A s0 H0 C code fp hr
  exact p.run pins s σ H v u Q I r (h x env env' hf G σ H L Lx v hd hR hS Q hQ)

theorem gen_core {P : Addr} {fi : ExI} {ns own : List Nat} {t : Tg} {fc : ExB} {fe : Ex} {wi : TI} {g : TG} {tt : TT} {te : TE} {stop : Bool} {WY : (V → Hp → Prop) → (Nat → Nat → L2.St → Hp → Prop) → Nat → Nat → V → L2.St → Hp → Prop} (hns : ∀ j ∈ ns, j ∈ own) (hnd : own.Nodup) (hP : (P, none) ∈ T.1)
    (hW : ∀ Q W m i b σ H, (if b = stop then Q (.bl stop) H else W m i σ H) → WY Q W m i (.bl b) σ H)
    (hi : ∀ (env : Ev) (ds : List D) (env' : Ev), fi env = some (ds, env') → ∀ (G : Hp) (σ : St) (H : Hp) (L Lx : List Cell), RelS X.K G env σ L → Sep T G H (L ++ Lx) →
      ∀ R : It → Hp → Prop, (∀ (G' H' : Hp) (L' : List Cell) (J : It), Same G G' → RelS X.K G' env' σ L' → Sep T G' H' (L' ++ Lx) → WalkD X.K T J ds G' → R J H') → wi σ H R)
    (hg : GImp X T ns t g) (ht : BImp X T fc tt)
    (he : ∀ (env : Ev) (o : O) (env' : Ev), fe env = some (o, env') → ∀ (G : Hp) (σ : St) (H : Hp) (L Lx : List Cell), RelS X.K G env σ L → Sep T G H (L ++ Lx) → ∀ Q : VK, PostE X T Lx G σ o env' Q → te σ H Q)
    {env env' : Ev} {o : O} (hf : eGenB own fi t fc fe stop env = some (o, env')) {G : Hp} {σ : St} {H : Hp} {L Lx : List Cell} (hR : RelS X.K G env σ L) (hS : Sep T G H (L ++ Lx)) {Q : VK} (hQ : PostE X T Lx G σ o env' Q) : tGenT P wi g tt te own WY (.bl (!stop)) σ H Q := by
  unfold eGenB at hf
  obtain ⟨⟨ds, env1⟩, e1, hf⟩ := bind_eq hf
  simp only at hf
  split at hf
  · rename_i hlp
    obtain ⟨⟨z, eF⟩, e2, hf⟩ := bind_eq hf
    cases hf
    refine hi env ds env1 e1 G σ H L Lx hR hS _ fun G1 H1 L1 J s1 R1 S1 wk => ⟨(S1.tab (P, none) hP).1, fun H2 tb => ?_⟩
    have S2 := sep_tab S1 hP tb
    obtain ⟨Lw, Rw, sw⟩ := rel_wipe R1 own
    have ww : ∀ e : Ev, ∀ j ∈ own, slot (wipeE e own) j = none := fun e j hj => wipeE_none hj
    obtain ⟨Lu, Ru, su⟩ := rel_unwipe (σ := wipe σ own) hnd (ww env1) (by rw [wipe_wipe]; exact Rw)
    -- the end
    have fin : ∀ {G2 H2 : Hp} {L2 : List Cell} {b : Bool}, Same G1 G2 → RelS X.K G2 eF (wipe σ own) L2 → Sep T G2 H2 (L2 ++ Lx) → z = b → Q (.bl b) H2 := fun {G2 H2 L2 b} s2 r2 S2 hz => by
      obtain ⟨L9, a9, b9⟩ := rel_back own hnd hlp.2 (fun v x hv => by
        obtain ⟨u, c, h1, h2, _⟩ := rel_get R1 hv
        cases h2 with
        | d h2 => exact ⟨u, h1, dp_mono s2 _ _ h2⟩) r2
      subst hz
      exact hQ G2 (.bl z) H2 L9 [] (s1.trans s2) (.d (.bl z)) a9 (S2.sub b9.right)
    refine ⟨fun n i σ' H' => ∃ G2 L2 e, ds.length ≤ n + i ∧ i ≤ ds.length ∧ wipe σ' own = wipe σ own ∧ Same G1 G2 ∧ RelS X.K G2 e σ' L2 ∧ Sep T G2 H' (L2 ++ Lx) ∧ (∀ j ∈ own, slot e j = none) ∧ genLoop own t fc fe stop (ds.drop i) e = some (z, eF), fun i => ds.length - i, ds.length, ?_, ?_⟩
    · exact ⟨G1, Lu, wipeE env1 own, by omega, by omega, wipe_wipe, .refl _, Ru, S2.sub (Sub.right (Sub.trans sw su)), ww env1, e2⟩
    · intro c n i σ' H' hW'
      obtain ⟨G2, L2, e, hn, hil, hws, s2, R2, S2', hwn, cl⟩ := hW'
      obtain ⟨w1, w2⟩ := wk i G2 H' _ s2 S2'
      by_cases hi' : i < ds.length
      · have hdec : ds.length - (i + 1) < ds.length - i := by omega
        refine .inr ⟨hdec, ?_⟩
        have hx : ds[i]? = some ds[i] := List.getElem?_eq_getElem hi'
        rw [List.drop_eq_getElem_cons hi'] at cl
        obtain ⟨go, yl⟩ := w1 _ hx
        unfold genLoop at cl
        obtain ⟨e3, q1, cl⟩ := bind_eq cl
        obtain ⟨⟨k, e4⟩, q2, cl⟩ := bind_eq cl
        refine ⟨go, fun x H3 hy => ?_⟩
        obtain ⟨G3, s3, dx, S3⟩ := yl x H3 hy
        refine hg _ e e3 q1 G3 σ' H3 L2 Lx x dx (rel_mono s3 R2) S3 _ fun σ4 L4 k4 l4 R4 S4 => ?_
        have hwp : wipe σ4 own = wipe σ own := (wipe_of l4 fun j hj => k4 j fun z => hj (hns j z)).trans hws
        refine ht e3 k e4 q2 G3 σ4 H3 L4 Lx R4 S4 _ fun G5 H5 L5 s5 R5 S5 => ?_
        cases k with
        | false =>
          simp only [Bool.false_eq_true, if_false] at cl ⊢
          obtain ⟨L7, a7, b7⟩ := rel_wipe R5 own
          obtain ⟨L8, a8, b8⟩ := rel_unwipe hnd (ww e4) a7
          exact ⟨G5, L8, wipeE e4 own, by omega, by omega, hwp, (s2.trans s3).trans s5, a8, S5.sub (Sub.right (Sub.trans b7 b8)), ww e4, cl⟩
        | true =>
          simp only [if_true] at cl ⊢
          obtain ⟨⟨o6, e6⟩, q3, cl⟩ := bind_eq cl
          obtain ⟨b, q4, cl⟩ := bind_eq cl
          refine he e4 o6 e6 q3 G5 σ4 H5 L5 Lx R5 S5 _ fun G6 v6 H6 L6 Lo6 s6 ot6 R6 S6 => ?_
          have hv : v6 = .bl b := by
            have q4 : oBool o6 = some b := q4
            cases ot6 with
            | d ot6 =>
              cases ot6 <;> cases q4
              rfl
            | l _ => cases q4
            | m _ => cases q4
            | g _ => cases q4
            | k _ _ => cases q4
          subst hv
          obtain ⟨L7, a7, b7⟩ := rel_wipe R6 own
          have S7 : Sep T G6 H6 (L7 ++ Lx) := (S6.sub .drop).sub b7.right
          refine ⟨n - 1, by omega, hW _ _ _ _ _ _ _ ?_⟩
          by_cases hb : b = stop
          · rw [if_pos hb] at cl ⊢
            cases cl
            rw [hwp] at a7
            exact fin (((s2.trans s3).trans s5).trans s6) a7 S7 rfl
          · rw [if_neg hb] at cl ⊢
            obtain ⟨L8, a8, b8⟩ := rel_unwipe hnd (ww e6) a7
            exact ⟨G6, L8, wipeE e6 own, by omega, by omega, hwp, ((s2.trans s3).trans s5).trans s6, a8, S7.sub (Sub.right b8), ww e6, cl⟩
      · refine .inl ⟨w2 (by omega), ?_⟩
        rw [List.drop_eq_nil_of_le (by omega)] at cl
        cases cl
        obtain ⟨L7, a7, b7⟩ := rel_wipe R2 own
        rw [hws, wipeE_id hwn] at a7
        exact fin s2 a7 (S2'.sub b7.right) rfl
  · cases hf

/-- all(elt for tg in iter if ..) -/
theorem ev_all {P c : Addr} {own : List (Str × Nat)} {elt tg iter : Expr} {ifs : List Expr} {p pos gpos : Pos} {fi : ExI} {ns : List Nat} {t : Tg} {fc : ExB} {fe : Ex} (hr : Room (k + 1) X.A) (hm : X.mg "all" = none) (TB : GxR.TabB X.base X.mg c P) (hP : (P, none) ∈ T.1) (hcode : X.env.code = .ref c) (hN : X.N.Nodup)
    (ok : BlkOk X.N X.env.scope scope own) (go : GenOk scope) (hi : IV X T tg iter fi) (hg : AllGen X k scope fun Y => GV Y T tg ns t)
    (ht : ∃ tt : TT, AllGen X k scope (fun Y => PTs Y ifs tt) ∧ BImp X T fc tt) (he : AllGen X k scope fun Y => EV Y T elt fe)
    (hns : ∀ j ∈ ns, j ∈ own.map (·.2) := by decide) (hnd : (own.map (·.2)).Nodup := by decide) (hgl : Gl X "all" := by rfl) (hs : ∀ v, genFold iter X.env v = pure v := by intro _; rfl)
    (hst : starEach [.GeneratorExp elt [⟨tg, iter, ifs, 0⟩] scope gpos] X.env = (false, eval (.GeneratorExp elt [⟨tg, iter, ifs, 0⟩] scope gpos) X.env) :: starEach [] X.env := by rfl) :
    EV X T (.Call (.Name "all" p) [.GeneratorExp elt [⟨tg, iter, ifs, 0⟩] scope gpos] [] pos) (eGenB (own.map (·.2)) fi t fc fe false) := by
  obtain ⟨wi, pi, hi⟩ := hi
  obtain ⟨g, pg, hg⟩ := gen_g hg
  obtain ⟨tt, pt, ht⟩ := ht
  obtain ⟨te, pe, he⟩ := gen_e he
  refine ⟨_, pe_all hr hgl hm TB hcode hN ok go pi hs pg pt pe hst, fun env o env' hf G σ H L Lx hR hS Q hQ => ?_⟩
  refine gen_core (WY := wAll) (stop := false) hns hnd hP (fun Q W m i b σ H h => ⟨b, rfl, ?_⟩) hi hg ht he hf hR hS hQ
  cases b with
  | true => simpa using h
  | false => simpa using h
theorem ev_any {P c : Addr} {own : List (Str × Nat)} {elt tg iter : Expr} {ifs : List Expr} {p pos gpos : Pos} {fi : ExI} {ns : List Nat} {t : Tg} {fc : ExB} {fe : Ex} (hr : Room (k + 1) X.A) (hm : X.mg "any" = none) (TB : GxR.TabB X.base X.mg c P) (hP : (P, none) ∈ T.1) (hcode : X.env.code = .ref c) (hN : X.N.Nodup)
    (ok : BlkOk X.N X.env.scope scope own) (go : GenOk scope) (hi : IV X T tg iter fi) (hg : AllGen X k scope fun Y => GV Y T tg ns t)
    (ht : ∃ tt : TT, AllGen X k scope (fun Y => PTs Y ifs tt) ∧ BImp X T fc tt) (he : AllGen X k scope fun Y => EV Y T elt fe)
    (hns : ∀ j ∈ ns, j ∈ own.map (·.2) := by decide) (hnd : (own.map (·.2)).Nodup := by decide) (hgl : Gl X "any" := by rfl) (hs : ∀ v, genFold iter X.env v = pure v := by intro _; rfl)
    (hst : starEach [.GeneratorExp elt [⟨tg, iter, ifs, 0⟩] scope gpos] X.env = (false, eval (.GeneratorExp elt [⟨tg, iter, ifs, 0⟩] scope gpos) X.env) :: starEach [] X.env := by rfl) :
    EV X T (.Call (.Name "any" p) [.GeneratorExp elt [⟨tg, iter, ifs, 0⟩] scope gpos] [] pos) (eGenB (own.map (·.2)) fi t fc fe true) := by
  obtain ⟨wi, pi, hi⟩ := hi
  obtain ⟨g, pg, hg⟩ := gen_g hg
  obtain ⟨tt, pt, ht⟩ := ht
  obtain ⟨te, pe, he⟩ := gen_e he
  refine ⟨_, pe_any hr hgl hm TB hcode hN ok go pi hs pg pt pe hst, fun env o env' hf G σ H L Lx hR hS Q hQ => ?_⟩
  refine gen_core (WY := wAny) (stop := true) hns hnd hP (fun Q W m i b σ H h => ⟨b, rfl, ?_⟩) hi hg ht he hf hR hS hQ
  cases b with
  | true => simpa using h
  | false => simpa using h
/-- no test; one test -/
theorem gt_none : ∃ tt : TT, AllGen X k scope (fun Y => PTs Y [] tt) ∧ BImp X T bYes tt := ⟨tYes, fun A s H L code fp hr => pts_nil, fun env k env' h G σ H L Lx hR hS Q hQ => by
  cases h
  exact hQ G H L (.refl _) hR hS⟩
theorem gt_one {c : Expr} {fc : ExB} (h : AllGen X k scope fun Y => BV Y T c fc) : ∃ tt : TT, AllGen X k scope (fun Y => PTs Y [c] tt) ∧ BImp X T fc tt := by
  obtain ⟨tt, pt, h⟩ := gen_b h
  exact ⟨tt, fun A s H L code fp hr => pts_one (pt A s H L code fp hr), h⟩
end
end Sh

/-! Shift layer: sum(..) of a generator of ints. -/
namespace Sh
open PySem PySem.Spec PyProof.Rows L2
abbrev sumObj (a : Int) (t : Tok) (c : Nat) : Obj := { cls := .type "list", dict := none, data := .seq #[.int a t] c, slots := #[] }
section
variable {fp : List Addr} {g S : Addr} {og : Obj} {tn : Nat → Heap → Prop}
/-- the consumer's own object changes -/
theorem inv_own {Y : Cx} {σ : L2.St} {H : Hp} {s : Shared} {c c' : Obj} {h' : Heap} {t' : Nat} (I : Inv Y [(g, og), (S, c)] σ H s) (hgs : g ≠ S) (hex : Y.s_0.heap.objs.size ≤ S) (hpn : Y.pn = []) (hc' : ∀ v, c'.data ≠ .cell v)
    (hk : ∀ b o, b ≠ S → s.heap.get? b = some o → h'.get? b = some o) (hS : h'.get? S = some c') : Inv Y [(g, og), (S, c')] σ H { s with heap := h', toks := t' } := by
  obtain ⟨p1, p2, p3, p4, p5⟩ := I.pin (S, c) (List.mem_append_right _ (by simp))
  have I1 : Inv Y [(g, og)] σ H s := I.pins_of fun p hp => I.pin p (List.mem_append_right _ (by
    rcases List.mem_cons.mp hp with e | hp
    · rw [e]
      simp
    · cases hp))
  have I2 : Inv Y [(g, og)] σ H { s with heap := h', toks := t' } := I1.turned hk p2 p3 (.inr hex) (fun x cc e z => by
    obtain ⟨v, o, ho, hd⟩ := I.cell x cc e
    rw [z, p1] at ho
    cases ho
    exact p5 v hd) (fun p hp => by
    rw [hpn, List.nil_append] at hp
    rcases List.mem_cons.mp hp with e | hp
    · rw [e]
      exact hgs
    · cases hp)
  refine I2.pins_of fun p hp => ?_
  rcases List.mem_cons.mp hp with e | hp
  · exact I2.pin p (List.mem_append_right _ (by rw [e]; simp))
  · rcases List.mem_cons.mp hp with e | hp
    · rw [e]
      exact ⟨hS, p2, p3, p4, hc'⟩
    · cases hp
def wSumW (W : Int → Nat → Nat → L2.St → Hp → Prop) : Obj → Nat → Nat → L2.St → Hp → Prop := fun c n i σ H => ∃ a t k, c = sumObj a t k ∧ W a n i σ H
def wSumY (W : Int → Nat → Nat → L2.St → Hp → Prop) : Obj → Nat → Nat → V → L2.St → Hp → Prop := fun c m i x σ H => ∃ a t k b, c = sumObj a t k ∧ x = .int b ∧ W (a + b) m i σ H
def wSumD (Q : V → Hp → Prop) : Obj → Hp → Prop := fun c H => ∃ a t k, c = sumObj a t k ∧ Q (.int a) H
theorem sum_step {X Y : Cx} {A : Around} {W : Int → Nat → Nat → L2.St → Hp → Prop} {Q : V → Hp → Prop} {gi : Nat} {nm qn : Value} {R : Result → Shared → Prop} {tg0 : Expr} {J0 : It} {it0 : Addr} (hh : A.handled = none) (hroom : A.depth < recursionLimit)
    (hog : og = { cls := .type "generator", data := .fields #[.int gi 0, nm, qn] }) (hgs : g ≠ S) (hex : Y.s_0.heap.objs.size ≤ S) (hpn : Y.pn = []) (hSf : S ∉ fp) (hT : Turn X.prog X.w X.K tg0 J0 fp it0 tn)
    (hE : ∀ a t c σ H s, Inv Y [(g, og), (S, c)] σ H s → Q (.int a) H → R (.ok (.ret (.int a t))) s) 
    (n i : Nat) (gs : GenState) (s : Shared) (a : Int) (tA : Tok) (c : Nat) (st : Int) (hst2 : st = 0 ∨ st = 2) (hst : GSt Y fp tn g S og i (fun o σ H => o = sumObj a tA c ∧ W a n i σ H) s) (hg : s.gens[gi]? = some gs)
      (hq : ∀ s'', GSt Y fp tn g S og i (fun c σ H => wSumW W c n i σ H) s'' → Goer X Y A.in1 fp tn g S og (wSumW W) (wSumY W) (wSumD Q) gs n s'')
      (hnext : ∀ i' gs' s'' a' tA' c' st', (st' = 0 ∨ st' = 2) → GSt Y fp tn g S og i' (fun o σ H => o = sumObj a' tA' c' ∧ W a' (n - 1) i' σ H) s'' → s''.gens[gi]? = some gs' →
        (∀ s3, GSt Y fp tn g S og i' (fun c σ H => wSumW W c (n - 1) i' σ H) s3 → preN (fun m => Goer X Y A.in1 fp tn g S og (wSumW W) (wSumY W) (wSumD Q) gs' m s3) n) → codeAny (model X.prog X.w) A (.builtin "sum.loop" ⟨[.ref g, .ref S, rawInt st', rawInt 0], []⟩) R s'') :
      codeAny (model X.prog X.w) A (.builtin "sum.loop" ⟨[.ref g, .ref S, rawInt st, rawInt 0], []⟩) R s := by
  have tnk : ∀ {i : Nat} {h h' : Heap}, tn i h → (∀ b o, b ≠ S → h.get? b = some o → h'.get? b = some o) → tn i h' := fun {i h h'} st hk => hT.keep _ _ _ st fun b hb o e => hk b o (fun z => hSf (by rw [← z]; exact hb)) e
  obtain ⟨o, σ, H, I, tni, hn, ho, w⟩ := hst
  subst ho
  have pinS : ∀ {c : Obj}, (S, c) ∈ Y.pn ++ [(g, og), (S, c)] := List.mem_append_right _ (List.mem_cons_of_mem _ List.mem_cons_self)
  have hS : s.heap.get? S = some (sumObj a tA c) := (I.pin _ pinS).1
  refine codeAny_builtin F.entry_sum_loop ?_
  rw [Around.under_plainId F.plain_sum_loop _]
  show wpAny _ A.in1 (seqItems? (.ref S) >>= _) _ _ s
  refine wpAny_bind (wpAny_seqItems hS rfl ?_)
  show wpAny _ A.in1 (tryCatch (pyNext (.ref g)) _ >>= _) _ _ s
  refine wpAny_bind (wpAny_tryCatch (wpAny_mono (gen_next (E := fun _ _ => False) (show A.in1.handled = none from hh) (show A.in1.depth < recursionLimit from hroom) hog ⟨_, σ, H, I, tni, hn, a, tA, c, rfl, w⟩ hg hq) (fun r s' h => ?_) fun _ _ z => z.elim))
  obtain ⟨e0, h⟩ := h
  cases r with
  | none =>
    obtain ⟨c', σ', H', I', a', t', k', rfl, wd⟩ := h
    have e1 : s'.heap.get? S = some (sumObj a' t' k') := (I'.pin _ pinS).1
    rw [e0, hS] at e1
    cases e1
    exact wpAny_pure (hE a tA _ σ' H' s' I' wd)
  | some v =>
    obtain ⟨i', gs', hg', ⟨c', σ', H', I', tni', hn', x, rx, a', t', k', b, rfl, rfl, w'⟩, kap⟩ := h
    have hS' : s'.heap.get? S = some (sumObj a' t' k') := (I'.pin _ pinS).1
    have e1 := hS'
    rw [e0, hS] at e1
    cases e1
    obtain ⟨t, rfl⟩ : ∃ t, v = Value.int b t := rx
    have next : ∀ (st' : Int) (h'' : Heap) (tk : Nat) (tA' : Tok) (c'' : Nat), (st' = 0 ∨ st' = 2) → (∀ b o, b ≠ S → s'.heap.get? b = some o → h''.get? b = some o) → h''.get? S = some (sumObj (a + b) tA' c'') → codeAny (model X.prog X.w) A (.builtin "sum.loop" ⟨[.ref g, .ref S, rawInt st', rawInt 0], []⟩) R { s' with heap := h'', toks := tk } := fun st' h'' tk tA' c'' hs hk hS'' =>
      hnext i' gs' _ (a + b) tA' c'' st' hs ⟨_, σ', H', inv_own I' hgs hex hpn (by intro v z; cases z) hk hS'', tnk tni' hk, hn', rfl, w'⟩ hg' kap
    rcases hst2 with rfl | rfl
    · show wpAny _ A.in1 (if (_ : Bool) = true then (mkInt (a + b) >>= _) else _) _ _ _
      split
      · refine wpAny_bind (wpAny_mkInt ?_)
        show wpAny _ A.in1 (updateSeq S (fun _ => #[.int (a + b) s'.toks]) >>= _) _ _ _
        refine wpAny_bind ?_
        refine wpAny_updateSeq hS' rfl (wpAny_pure ⟨plainId_quiet F.plain_sum_loop _, next 0 _ _ s'.toks _ (.inl rfl) (fun b o hb e => ?_) (Heap.get?_update_self _ hS' rfl)⟩)
        exact (Heap.get?_update_other _ _ (fun h : S = b => hb h.symm)).trans e
      · refine wpAny_bind (wpAny_rule ?_)
        refine wpAny_bind (wpAny_attempt (wpAny_holding (wpAny_add_int ?_)))
        show wpAny _ A.in1 (updateSeq S (fun _ => #[.int (a + b) s'.toks]) >>= _) _ _ _
        refine wpAny_bind (wpAny_updateSeq hS' rfl ?_)
        have hS₂ := Heap.get?_update_self (Obj.mapSeq fun _ => #[Value.int (a + b) s'.toks]) hS' rfl
        refine wpAny_bind (wpAny_letGo ?_)
        refine wpAny_bind (wpAny_updateSeq hS₂ rfl (wpAny_pure ⟨plainId_quiet F.plain_sum_loop _, next 2 _ _ s'.toks _ (.inr rfl) (fun b o hb e => ?_) (Heap.get?_update_self _ hS₂ rfl)⟩))
        exact (Heap.get?_update_other _ _ (fun h : S = b => hb h.symm)).trans ((Heap.get?_update_other _ _ (fun h : S = b => hb h.symm)).trans e)
    · show wpAny _ A.in1 ((holding [Value.int b t] (binaryOp .Add (.int a tA) (.int b t))).attempt >>= _) _ _ _
      refine wpAny_bind (wpAny_attempt (wpAny_holding (wpAny_add_int ?_)))
      show wpAny _ A.in1 (updateSeq S (fun _ => #[.int (a + b) s'.toks]) >>= _) _ _ _
      refine wpAny_bind (wpAny_updateSeq hS' rfl ?_)
      have hS₂ := Heap.get?_update_self (Obj.mapSeq fun _ => #[Value.int (a + b) s'.toks]) hS' rfl
      refine wpAny_bind (wpAny_letGo ?_)
      refine wpAny_bind (wpAny_updateSeq hS₂ rfl (wpAny_pure ⟨plainId_quiet F.plain_sum_loop _, next 2 _ _ s'.toks _ (.inr rfl) (fun b o hb e => ?_) (Heap.get?_update_self _ hS₂ rfl)⟩))
      exact (Heap.get?_update_other _ _ (fun h : S = b => hb h.symm)).trans ((Heap.get?_update_other _ _ (fun h : S = b => hb h.symm)).trans e)
theorem sum_gloop {X Y : Cx} {A : Around} {W : Int → Nat → Nat → L2.St → Hp → Prop} {Q : V → Hp → Prop} {gi : Nat} {nm qn : Value} {R : Result → Shared → Prop} {tg0 : Expr} {J0 : It} {it0 : Addr} (hh : A.handled = none) (hroom : A.depth < recursionLimit)
    (hog : og = { cls := .type "generator", data := .fields #[.int gi 0, nm, qn] }) (hgs : g ≠ S) (hex : Y.s_0.heap.objs.size ≤ S) (hpn : Y.pn = []) (hSf : S ∉ fp) (hT : Turn X.prog X.w X.K tg0 J0 fp it0 tn)
    (hE : ∀ a t c σ H s, Inv Y [(g, og), (S, c)] σ H s → Q (.int a) H → R (.ok (.ret (.int a t))) s) :
    ∀ (n i : Nat) (gs : GenState) (s : Shared) (a : Int) (tA : Tok) (c : Nat) (st : Int), (st = 0 ∨ st = 2) → GSt Y fp tn g S og i (fun o σ H => o = sumObj a tA c ∧ W a n i σ H) s → s.gens[gi]? = some gs →
      (∀ s'', GSt Y fp tn g S og i (fun c σ H => wSumW W c n i σ H) s'' → Goer X Y A.in1 fp tn g S og (wSumW W) (wSumY W) (wSumD Q) gs n s'') →
      codeAny (model X.prog X.w) A (.builtin "sum.loop" ⟨[.ref g, .ref S, rawInt st, rawInt 0], []⟩) R s := by
  intro n
  induction n with
  | zero =>
    intro i gs s a tA c st hst2 hst hg hq
    refine sum_step hh hroom hog hgs hex hpn hSf hT hE 0 i gs s a tA c st hst2 hst hg hq fun i' gs' s'' a' tA' c' st' _ hst' _ kap => ?_
    obtain ⟨o, σ, H, I, tni, hn, ho, w⟩ := hst'
    exact (kap s'' ⟨o, σ, H, I, tni, hn, a', tA', c', ho, w⟩).elim
  | succ n ih => exact fun i gs s a tA c st hst2 hst hg hq => sum_step hh hroom hog hgs hex hpn hSf hT hE (n + 1) i gs s a tA c st hst2 hst hg hq fun i' gs' s'' a' tA' c' st' h1 h2 h3 h4 => ih i' gs' s'' a' tA' c' st' h1 h2 h3 h4
end
section
variable {X : Cx} {T : TabsT} {k : Nat} {scope : Scope}
def tGenS (P : Addr) (wi : TI) (gt : TG) (tt : TT) (te : TE) (vs : List Nat) : TE := fun σ H Q => wi σ H fun J H1 => GxR.TabG H1 P ∧ ∀ H2, GxR.Tabbed P H1 H2 → ∃ (W : Int → Nat → Nat → L2.St → Hp → Prop) (rem : Nat → Nat) (n : Nat), W 0 n 0 (wipe σ vs) H2 ∧
  GTurn J gt tt te (wSumW W) (wSumY W) (wSumD Q) rem
theorem pe_sum {c P : Addr} {own : List (Str × Nat)} {tg iter elt : Expr} {ifs : List Expr} {p pos gpos : Pos} {wi : TI} {gt : TG} {tt : TT} {te : TE} (hr : Room (k + 1) X.A) (hg : Gl X "sum") (hm : X.mg "sum" = none) (TB : GxR.TabB X.base X.mg c P) (hcode : X.env.code = .ref c)
    (hN : X.N.Nodup) (ok : BlkOk X.N X.env.scope scope own) (go : GenOk scope) (hi : PI X tg iter wi) (hs : ∀ v, genFold iter X.env v = pure v)
    (pg : AllGen X k scope fun Y => PG Y tg gt) (pt : AllGen X k scope fun Y => PTs Y ifs tt) (pe : AllGen X k scope fun Y => PE Y elt te)
    (he : starEach [.GeneratorExp elt [⟨tg, iter, ifs, 0⟩] scope gpos] X.env = (false, eval (.GeneratorExp elt [⟨tg, iter, ifs, 0⟩] scope gpos) X.env) :: starEach [] X.env := by rfl) :
    PE X (.Call (.Name "sum" p) [.GeneratorExp elt [⟨tg, iter, ifs, 0⟩] scope gpos] [] pos) (tGenS P wi gt tt te (own.map (·.2))) := by
  refine ⟨fun pins s σ H Q I h => ?_⟩
  refine wpAny_Call_Name_kw (ld_blt I hg hm (by rfl) ?_)
  refine PyProof.Rows.callWith_builtin1 ?_ he (by rfl)
  rw [he]
  show wpAny _ _ (spliced ((false, eval (.GeneratorExp elt [⟨tg, iter, ifs, 0⟩] scope gpos) X.env) :: backTo pos (starEach [] X.env))) _ _ s
  refine Calls.spliced_cons (gen_make hr TB hcode hN ok go hi hs I h fun J H1 H2 fp it tn s4 code gi nm qn g s5 hR hT M => ?_)
  obtain ⟨W, rem, n, w0, GT⟩ := hR H2 hT
  refine Calls.spliced_nil ?_
  have hA : (X.A.in1.in1.over (.compLoop (.GeneratorExp elt [⟨tg, iter, ifs, 0⟩] scope gpos) 0 (.ref it) .none (gEnv X scope s4.heap.objs.size code)) []).frames = some (gEnv X scope s4.heap.objs.size code :: X.stack) := by
    show pushEnvs [gEnv X scope s4.heap.objs.size code] X.A.frames = _
    rw [I.ok.frames]
    rfl
  have hrA : Room k (X.A.in1.in1.over (.compLoop (.GeneratorExp elt [⟨tg, iter, ifs, 0⟩] scope gpos) 0 (.ref it) .none (gEnv X scope s4.heap.objs.size code)) []) := room_gen hr rfl rfl
  have I5 := M.start _ hrA.hd hA
  have nf : g ∉ fp := fun z => by
    have h1 := (M.fpo g z).2
    exact absurd (Nat.lt_trans h1 M.size.2) (Nat.lt_irrefl _)
  refine call_function_tree F.kind_sum F.plain_sum F.entry_sum (F.args_sum1 _) ?_
  unfold Builtin.«sum»
  simp only [List.length_cons, List.length_nil]
  rw [if_neg (by decide)]
  refine wpAny_bind (wpAny_of_eq (show Builtin.Builtins.bindParams "sum" ["start"] 0 { } = pure [none] from rfl) ?_)
  refine wpAny_bind (wpAny_pyIter_gen ⟨_, nm, qn, M.gen, rfl, rfl, rfl⟩ ?_)
  refine wpAny_bind (wpAny_mkInt ?_)
  refine wpAny_bind (wpAny_pure ?_)
  simp only [List.forIn_cons, List.forIn_nil]
  refine wpAny_bind (wpAny_bind (wpAny_bind (wpAny_isInstance (T := "int") (b := false) (typeIs_int _ _ _) PySem.sub_int_str ?_)))
  simp only [Bool.false_eq_true, if_false]
  refine wpAny_pure (wpAny_bind (wpAny_bind (wpAny_isInstance (T := "int") (b := false) (typeIs_int _ _ _) PySem.sub_int_bytes ?_)))
  simp only [Bool.false_eq_true, if_false]
  refine wpAny_pure (wpAny_bind (wpAny_bind (wpAny_isInstance (T := "int") (b := false) (typeIs_int _ _ _) PySem.sub_int_bytearray ?_)))
  simp only [Bool.false_eq_true, if_false]
  refine wpAny_pure (wpAny_pure ?_)
  refine wpAny_bind (wpAny_newObj_type ?_)
  generalize hS : s5.heap.objs.size = S
  have hgS : g < S := by
    rw [← hS]
    exact M.size.1
  have I6 : Inv (genCx X (X.A.in1.in1.over (.compLoop (.GeneratorExp elt [⟨tg, iter, ifs, 0⟩] scope gpos) 0 (.ref it) .none (gEnv X scope s4.heap.objs.size code)) []) s4 H2 (gEnv X scope s4.heap.objs.size code) fp) [(g, { cls := .type "generator", data := .fields #[.int gi 0, nm, qn] })] (wipe σ (own.map (·.2))) H2 { s5 with heap := s5.heap.push (sumObj 0 s5.toks 0), toks := s5.toks + 1 } := I5.kept fun b o e => Heap.get?_push_of_some _ e
  have hSn : S ∉ fp := fun z => by
    have h1 := (M.fpo S z).2
    exact absurd (Nat.lt_trans h1 (Nat.lt_trans M.size.2 hgS)) (Nat.lt_irrefl _)
  have I7 := I6.pins_of (pins' := [(g, { cls := .type "generator", data := .fields #[.int gi 0, nm, qn] }), (S, sumObj 0 s5.toks 0)]) fun q hq => by
    rcases List.mem_cons.mp hq with e | hq
    · exact I6.pin q (List.mem_append_right _ (by rw [e]; simp))
    · rcases List.mem_cons.mp hq with e | hq
      · subst e
        refine ⟨?_, I5.hok.fresh (Nat.le_of_eq hS), ?_, I5.nofs (Nat.le_of_eq hS), fun v z => by cases z⟩
        · show (s5.heap.push _).get? S = _
          rw [← hS]
          exact Heap.get?_push_size _ rfl
        · have := I5.lt
          rw [hS] at this
          exact Nat.ne_of_gt this
      · cases hq
  have back : ∀ {c' : Obj} {σ' : L2.St} {H' : Hp} {s' : Shared} {a : Int} {t : Tok}, Inv (genCx X (X.A.in1.in1.over (.compLoop (.GeneratorExp elt [⟨tg, iter, ifs, 0⟩] scope gpos) 0 (.ref it) .none (gEnv X scope s4.heap.objs.size code)) []) s4 H2 (gEnv X scope s4.heap.objs.size code) fp) [(g, { cls := .type "generator", data := .fields #[.int gi 0, nm, qn] }), (S, c')] σ' H' s' → Q (.int a) H' → L2.EP X pins σ Q (.int a t) s' := fun {c' σ' H' s' a t} I' q =>
    ⟨.int a, H', M.inv.call' (ch := fp) I'.os I'.base I'.hok I'.bare fun b hb => ⟨(M.fpo b hb).1.2.2.2.1, (M.fpo b hb).1.2.1, (M.fpo b hb).1.2.2.2.2.1, (M.fpo b hb).1.2.2.2.2.2⟩, ⟨t, rfl⟩, q⟩
  refine wpAny_pure ⟨plainId_quiet F.plain_sum_loop _, ?_⟩
  refine sum_gloop (X := X) (A := X.A) (W := W) (Q := Q) hr.hd (by have := hr.dp; show X.A.depth < _; omega) rfl (Nat.ne_of_lt hgS) (Nat.le_of_lt (Nat.lt_trans M.size.2 hgS)) rfl hSn M.turn (fun a t c' σ' H' s' I' q => back I' q) n 0 _ _ 0 s5.toks 0 0 (.inl rfl) ⟨_, _, H2, I7, M.turn.keep _ _ _ M.st fun b _ o e => Heap.get?_push_of_some _ e, fun b hb => (M.fpo b hb).1.1, rfl, w0⟩ M.gens fun s'' hs'' => ?_
  refine ⟨rfl, ?_⟩
  exact seg_gstart (A := X.A.in1.in1) rfl M.turn (pg _ _ _ _ _ _ hrA) (pt _ _ _ _ _ _ hrA) (pe _ _ _ _ _ _ hrA) GT go.co nf hSn hs'' rfl

def sumLoop (own : List Nat) (tg : Tg) (cond : ExB) (elt : Ex) : List D → Ev → Option (Int × Ev)
  | [], e => some (0, e)
  | x :: xs, e => (tg x e).bind fun e1 => (cond e1).bind fun p =>
    if p.1 = true then (elt p.2).bind fun q => (oInt q.1).bind fun b => (sumLoop own tg cond elt xs (wipeE q.2 own)).bind fun r => some (b + r.1, r.2)
    else sumLoop own tg cond elt xs (wipeE p.2 own)
@[simp] def eGenS (own : List Nat) (it : ExI) (tg : Tg) (cond : ExB) (elt : Ex) : Ex := fun e => (it e).bind fun p => if p.1.length ≤ 1000000 ∧ plainE p.2 own = true then
  (sumLoop own tg cond elt p.1 (wipeE p.2 own)).bind fun r => some (.d (.int r.1), backE p.2 r.2 own) else none
theorem gen_coreS {P : Addr} {fi : ExI} {ns own : List Nat} {t : Tg} {fc : ExB} {fe : Ex} {wi : TI} {g : TG} {tt : TT} {te : TE} (hns : ∀ j ∈ ns, j ∈ own) (hnd : own.Nodup) (hP : (P, none) ∈ T.1)
    (hi : ∀ (env : Ev) (ds : List D) (env' : Ev), fi env = some (ds, env') → ∀ (G : Hp) (σ : St) (H : Hp) (L Lx : List Cell), RelS X.K G env σ L → Sep T G H (L ++ Lx) →
      ∀ R : It → Hp → Prop, (∀ (G' H' : Hp) (L' : List Cell) (J : It), Same G G' → RelS X.K G' env' σ L' → Sep T G' H' (L' ++ Lx) → WalkD X.K T J ds G' → R J H') → wi σ H R)
    (hg : GImp X T ns t g) (ht : BImp X T fc tt)
    (he : ∀ (env : Ev) (o : O) (env' : Ev), fe env = some (o, env') → ∀ (G : Hp) (σ : St) (H : Hp) (L Lx : List Cell), RelS X.K G env σ L → Sep T G H (L ++ Lx) → ∀ Q : VK, PostE X T Lx G σ o env' Q → te σ H Q)
    {env env' : Ev} {o : O} (hf : eGenS own fi t fc fe env = some (o, env')) {G : Hp} {σ : St} {H : Hp} {L Lx : List Cell} (hR : RelS X.K G env σ L) (hS : Sep T G H (L ++ Lx)) {Q : VK} (hQ : PostE X T Lx G σ o env' Q) : tGenS P wi g tt te own σ H Q := by
  unfold eGenS at hf
  obtain ⟨⟨ds, env1⟩, e1, hf⟩ := bind_eq hf
  simp only at hf
  split at hf
  · rename_i hlp
    obtain ⟨⟨z, eF⟩, e2, hf⟩ := bind_eq hf
    cases hf
    refine hi env ds env1 e1 G σ H L Lx hR hS _ fun G1 H1 L1 J s1 R1 S1 wk => ⟨(S1.tab (P, none) hP).1, fun H2 tb => ?_⟩
    have S2 := sep_tab S1 hP tb
    obtain ⟨Lw, Rw, sw⟩ := rel_wipe R1 own
    have ww : ∀ e : Ev, ∀ j ∈ own, slot (wipeE e own) j = none := fun e j hj => wipeE_none hj
    obtain ⟨Lu, Ru, su⟩ := rel_unwipe (σ := wipe σ own) hnd (ww env1) (by rw [wipe_wipe]; exact Rw)
    refine ⟨fun a n i σ' H' => ∃ G2 L2 e r, ds.length ≤ n + i ∧ i ≤ ds.length ∧ wipe σ' own = wipe σ own ∧ Same G1 G2 ∧ RelS X.K G2 e σ' L2 ∧ Sep T G2 H' (L2 ++ Lx) ∧ (∀ j ∈ own, slot e j = none) ∧ sumLoop own t fc fe (ds.drop i) e = some (r, eF) ∧ a + r = z, fun i => ds.length - i, ds.length, ?_, ?_⟩
    · exact ⟨G1, Lu, wipeE env1 own, z, by omega, by omega, wipe_wipe, .refl _, Ru, S2.sub (Sub.right (Sub.trans sw su)), ww env1, e2, by omega⟩
    · intro c n i σ' H' hW'
      obtain ⟨a, tk, kk, hc, G2, L2, e, r, hn, hil, hws, s2, R2, S2', hwn, cl, hz⟩ := hW'
      obtain ⟨w1, w2⟩ := wk i G2 H' _ s2 S2'
      by_cases hi' : i < ds.length
      · have hdec : ds.length - (i + 1) < ds.length - i := by omega
        refine .inr ⟨hdec, ?_⟩
        have hx : ds[i]? = some ds[i] := List.getElem?_eq_getElem hi'
        rw [List.drop_eq_getElem_cons hi'] at cl
        obtain ⟨go, yl⟩ := w1 _ hx
        unfold sumLoop at cl
        obtain ⟨e3, q1, cl⟩ := bind_eq cl
        obtain ⟨⟨k, e4⟩, q2, cl⟩ := bind_eq cl
        refine ⟨go, fun x H3 hy => ?_⟩
        obtain ⟨G3, s3, dx, S3⟩ := yl x H3 hy
        refine hg _ e e3 q1 G3 σ' H3 L2 Lx x dx (rel_mono s3 R2) S3 _ fun σ4 L4 k4 l4 R4 S4 => ?_
        have hwp : wipe σ4 own = wipe σ own := (wipe_of l4 fun j hj => k4 j fun z => hj (hns j z)).trans hws
        refine ht e3 k e4 q2 G3 σ4 H3 L4 Lx R4 S4 _ fun G5 H5 L5 s5 R5 S5 => ?_
        cases k with
        | false =>
          simp only [Bool.false_eq_true, if_false] at cl ⊢
          obtain ⟨L7, a7, b7⟩ := rel_wipe R5 own
          obtain ⟨L8, a8, b8⟩ := rel_unwipe hnd (ww e4) a7
          exact ⟨a, tk, kk, hc, G5, L8, wipeE e4 own, r, by omega, by omega, hwp, (s2.trans s3).trans s5, a8, S5.sub (Sub.right (Sub.trans b7 b8)), ww e4, cl, hz⟩
        | true =>
          simp only [if_true] at cl ⊢
          obtain ⟨⟨o6, e6⟩, q3, cl⟩ := bind_eq cl
          obtain ⟨b, q4, cl⟩ := bind_eq cl
          obtain ⟨⟨r', eF'⟩, q5, cl⟩ := bind_eq cl
          cases cl
          refine he e4 o6 e6 q3 G5 σ4 H5 L5 Lx R5 S5 _ fun G6 v6 H6 L6 Lo6 s6 ot6 R6 S6 => ?_
          have hv : v6 = .int b := by
            have q4 : oInt o6 = some b := q4
            cases ot6 with
            | d ot6 =>
              cases ot6 <;> cases q4
              rfl
            | l _ => cases q4
            | m _ => cases q4
            | g _ => cases q4
            | k _ _ => cases q4
          subst hv
          obtain ⟨L7, a7, b7⟩ := rel_wipe R6 own
          have S7 : Sep T G6 H6 (L7 ++ Lx) := (S6.sub .drop).sub b7.right
          obtain ⟨L8, a8, b8⟩ := rel_unwipe hnd (ww e6) a7
          exact ⟨n - 1, by omega, a, tk, kk, b, hc, rfl, G6, L8, wipeE e6 own, r', by omega, by omega, hwp, ((s2.trans s3).trans s5).trans s6, a8, S7.sub (Sub.right b8), ww e6, q5, by simp only at hz; omega⟩
      · refine .inl ⟨w2 (by omega), a, tk, kk, hc, ?_⟩
        rw [List.drop_eq_nil_of_le (by omega)] at cl
        cases cl
        obtain ⟨L7, a7, b7⟩ := rel_wipe R2 own
        rw [hws, wipeE_id hwn] at a7
        obtain ⟨L9, a9, b9⟩ := rel_back own hnd hlp.2 (fun v x hv => by
          obtain ⟨u, c, h1, h2, _⟩ := rel_get R1 hv
          cases h2 with
          | d h2 => exact ⟨u, h1, dp_mono s2 _ _ h2⟩) a7
        have hz' : a = z := by omega
        subst hz'
        exact hQ G2 (.int a) H' L9 [] (s1.trans s2) (.d (.int a)) a9 (S2'.sub (Sub.right (Sub.trans b7 b9)))
  · cases hf
theorem ev_sumG {P c : Addr} {own : List (Str × Nat)} {elt tg iter : Expr} {ifs : List Expr} {p pos gpos : Pos} {fi : ExI} {ns : List Nat} {t : Tg} {fc : ExB} {fe : Ex} (hr : Room (k + 1) X.A) (hm : X.mg "sum" = none) (TB : GxR.TabB X.base X.mg c P) (hP : (P, none) ∈ T.1) (hcode : X.env.code = .ref c) (hN : X.N.Nodup)
    (ok : BlkOk X.N X.env.scope scope own) (go : GenOk scope) (hi : IV X T tg iter fi) (hg : AllGen X k scope fun Y => GV Y T tg ns t)
    (ht : ∃ tt : TT, AllGen X k scope (fun Y => PTs Y ifs tt) ∧ BImp X T fc tt) (he : AllGen X k scope fun Y => EV Y T elt fe)
    (hns : ∀ j ∈ ns, j ∈ own.map (·.2) := by decide) (hnd : (own.map (·.2)).Nodup := by decide) (hgl : Gl X "sum" := by rfl) (hs : ∀ v, genFold iter X.env v = pure v := by intro _; rfl)
    (hst : starEach [.GeneratorExp elt [⟨tg, iter, ifs, 0⟩] scope gpos] X.env = (false, eval (.GeneratorExp elt [⟨tg, iter, ifs, 0⟩] scope gpos) X.env) :: starEach [] X.env := by rfl) :
    EV X T (.Call (.Name "sum" p) [.GeneratorExp elt [⟨tg, iter, ifs, 0⟩] scope gpos] [] pos) (eGenS (own.map (·.2)) fi t fc fe) := by
  obtain ⟨wi, pi, hi⟩ := hi
  obtain ⟨g, pg, hg⟩ := gen_g hg
  obtain ⟨tt, pt, ht⟩ := ht
  obtain ⟨te, pe, he⟩ := gen_e he
  exact ⟨_, pe_sum hr hgl hm TB hcode hN ok go pi hs pg pt pe hst, fun env o env' hf G σ H L Lx hR hS Q hQ => gen_coreS hns hnd hP hi hg ht he hf hR hS hQ⟩
end
end Sh

/-! Shift layer: the end of a law whose defs hold generator expressions. -/
namespace Sh
open PySem PySem.Spec PyProof.Rows L2
/-- what the head tells of each def's table -/
def Recs (q : Program) (mg : Str → Option Value) (h : Heap) : Prop := ∀ d ∈ recsOf q, ∃ a o fd c P, mg d.name = some (.ref a) ∧ h.get? a = some o ∧ o.data = .func fd ∧ fd.code = .ref c ∧ h.IsCode c P #[] ∧ h.TableAt c P #[]
theorem walk_tabs {l : PySem.W.OpenLaw} {n k : Nat} {q : Program} {loose : List Str} {XP : (Str → Option Value) → Heap → Prop} {YP : World → Heap → Prop} {d : DefRec} {K : Params → PySem.W.Frag} {CX : World → CXT} {x : Str}
    (hn : l.most = some n) (hn2 : n ≤ sizeLine) (hdf : d.params.defaults = []) (hr : Room k callerA) (hY : ∀ (w : World) (h : Heap), YP w h → (K w.params).In h)
    (F : ∀ (w : World) (mg : Str → Option Value) (fa : Addr) (h : Heap), (K w.params).In h → h.Ns mainGlobals mg → mg d.name = some (.ref fa) → Recs q mg h → LamX.LawAtS l w (K w.params) (CX w) k n x mg fa h)
    (hCX : ∀ (w : World) (H : Hp) (s : Shared) (e : Value) (s' : Shared), CX w [] H s (fun _ _ _ => False) e s' → False) :
    PySem.W.WalkO q loose XP YP l.row.toRowW d [] (fun f vs => PySem.call f vs) := by
  refine Att.attach_callB hn hdf fun w s₀ s₁ mg mb fa o pm cd doc a vs ns G Y ho hd hcd hmg hobj hints hlen hbits hg => ?_
  have KX := hY w _ Y
  obtain ⟨fd, cs, sp, hT, nT, C, hb, hsp, hF⟩ := F w mg fa _ KX G.T.g hmg G.T.tab
  exact LamX.law_callTs KX G.T.g G.T.b G.T.builtins G.T.nolimit hg hT nT C G.T.bmain hobj hints (Nat.le_trans hlen hn2) hr hF hb (fun H hH hS => hsp H a ns hlen hbits hH hS) fun H e s' => hCX w H s₁ e s'
theorem tab_of {q : Program} {K : PySem.W.Frag} {h : Heap} {mg : Str → Option Value} {x : Str} {f c P : Addr} {oc e : Value} {od dd : Option Addr} {fd : FuncData} {sl sl' : Array (Option Value)} {vs : Array Value} (X : K.In h) (R : Recs q mg h) (hq : ((recsOf q).any fun d => d.name == x) = true)
    (g : mg x = some (.ref f)) (lf : K.lookup f = some ⟨oc, od, .func fd, sl⟩) (hcd : fd.code = .ref c) (lc : K.lookup c = some ⟨e, dd, .fields vs, sl'⟩) (h11 : vs[11]? = some (.ref P)) :
    h.get? P = some { cls := .none, data := .fields #[] } ∧ PySem.W.CodeHd h c P := by
  obtain ⟨dL, hm, hn1⟩ := List.any_eq_true.mp hq
  have hn2 : dL.name = x := beq_iff_eq.mp hn1
  obtain ⟨a', o', fd', c', P', h1, h2, h3, h4, h5, h6⟩ := R dL hm
  rw [hn2, g] at h1
  cases h1
  have g1 := X _ _ lf
  rw [g1] at h2
  cases h2
  cases h3
  rw [hcd] at h4
  cases h4
  have h6' := h6
  obtain ⟨⟨oc2, vc, e1, _, e3, e4⟩, hP⟩ := h6
  have g2 := X _ _ lc
  rw [g2] at e1
  cases e1
  cases e3
  rw [h11] at e4
  cases e4
  exact ⟨hP, PySem.W.CodeHd.of h5 h6'⟩
theorem law_spT {K : PySem.W.Frag} {T : TabsT} {F : Fn} {H : Hp} {a : Addr} {ns : List Int} (h : ∃ fs, F [.d (.list (ns.map .int))] = some (.d (.bool true), fs)) (hK : T.2 = []) (hT : ∀ P ∈ T.1, H P.1 = some (.tbl #[])) (hU : ∀ P ∈ T.1, ∀ P' ∈ T.1, P.1 = P'.1 → P = P') (hS : SqL K H a (ns.map V.int)) {E : XK} : spD K T F [.ref a] H (fun v _ => v = .bl true) E := by
  obtain ⟨fs, h⟩ := h
  have hd : ∀ G : Hp, DqAll K G (ns.map V.int) (ns.map PyData.int) := fun G => by
    clear h hS
    induction ns with
    | nil => exact .nil
    | cons n r ih => exact .cons (.int n) ih
  have hm : ∀ b, b ∈ T.1.map (·.1) → H b = some (.tbl #[]) := fun b hb => by
    obtain ⟨P, hP, rfl⟩ := List.mem_map.mp hb
    exact hT P hP
  refine ⟨fun b => if b ∈ T.1.map (·.1) then none else H b, [_], [], [], _, fs, .some (.d (.lst ?_ (hd _))) .nil, ⟨by simp, by simp, fun b x e => ?_, fun P hP => ⟨?_, if_pos (List.mem_map.mpr ⟨P, hP, rfl⟩), by simp⟩, hU, by rw [hK]; simp, by simp⟩, h, fun G' v H' cr cf s ot _ _ => ?_⟩
  · rcases hS with e | r
    · have ha : a ∉ T.1.map (·.1) := fun z => by
        have h1 := hm a z
        rcases e with e | ⟨o, e⟩ <;> rw [h1] at e <;> cases e
      refine .inl ?_
      show (if a ∈ T.1.map (·.1) then none else H a) = _ ∨ ∃ o, (if a ∈ T.1.map (·.1) then none else H a) = _
      rw [if_neg ha]
      exact e
    · exact .inr r
  · have e : (if b ∈ T.1.map (·.1) then none else H b) = some x := e
    by_cases hb : b ∈ T.1.map (·.1)
    · rw [if_pos hb] at e
      cases e
    · rw [if_neg hb] at e
      exact e
  · have h1 := hT P hP
    obtain ⟨P, q⟩ := P
    cases q with
    | none => exact ⟨#[], h1, True.intro⟩
    | some q => exact LamX.TabS.nil h1
  · cases ot with
    | d ot =>
      cases ot
      rfl
theorem tabB_of {base : Heap} {mg : Str → Option Value} {p : Addr × Addr} (h : LamX.TabB base mg p.1 p.2) : GxR.TabB base mg p.1 p.2 := ⟨h.code, h.bm, h.gP⟩
end Sh

/-! What every law's own helpers do: plain Lean. -/
namespace Sh
open PySem

/-! ### helpers -/
theorem compLoop_pure {own : List Nat} {tg : Tg} {cond : ExB} {elt : Ex} {e : Ev} (b : D → Bool) (f : D → D) : ∀ ds : List D,
    (∀ x ∈ ds, ∃ e1 e2, tg x e = some e1 ∧ cond e1 = some (b x, e2) ∧ (b x = false → wipeE e2 own = e) ∧ (b x = true → ∃ o e3, elt e2 = some (o, e3) ∧ frz o = some (f x) ∧ wipeE e3 own = e)) →
    compLoop own tg cond elt ds e = some ((ds.filter b).map f, e)
  | [], _ => rfl
  | x :: xs, h => by
    obtain ⟨e1, e2, h1, h2, h3, h4⟩ := h x List.mem_cons_self
    have ih := compLoop_pure b f xs fun y hy => h y (List.mem_cons_of_mem _ hy)
    unfold compLoop
    rw [h1, Option.bind_some, h2, Option.bind_some]
    cases hb : b x with
    | false =>
      simp only [Bool.false_eq_true, if_false]
      rw [h3 hb, ih, List.filter_cons_of_neg (by simp [hb])]
    | true =>
      obtain ⟨o, e3, h5, h6, h7⟩ := h4 hb
      simp only [if_true]
      rw [h5, Option.bind_some, h6, Option.bind_some, h7, ih, Option.bind_some, List.filter_cons_of_pos hb]
      rfl
theorem rangeD_zero (n : Nat) : rangeD 0 (n : Int) = (List.range n).map fun k => PyData.int (k : Nat) := by
  unfold rangeD
  simp

/-! ### row: the script, how much of it is taken, the state, the rest of a large number -/
def Rw (ns : List Int) (o : O) : Prop := ∃ p s r : Int, 0 ≤ p ∧ o = .l [.list (ns.map .int), .int p, .int s, .int r]
def B_taken : Sx :=
  (sSeq (sIf (bOp2 gGt (pV (eOp2 gItem (pS 0) (pV (eC (.int 3))))) (pV (eC (.int 0)))) (sSeq (sSet 2 (eOp2 gMod (pV (eOp1 gInt (pV (eOp2 gItem (pS 0) (pV (eC (.int 3))))))) (pV (eVar 1))))
  (sSeq (sSub 0 (eC (.int 3)) (eOp2 gDiv (pV (eOp2 gItem (pS 0) (pV (eC (.int 3))))) (pV (eVar 1))))
  (sRet (eVar 2)))) sNil)
  (sSeq (sSub 0 (eC (.int 1)) (eOp2 gAdd (pV (eOp2 gItem (pS 0) (pV (eC (.int 1))))) (pV (eC (.int 1)))))
  (sSeq (sIf (bOp2 gGt (pV (eOp2 gItem (pS 0) (pV (eC (.int 1))))) (pV (eOp1 gLen (pV (eOp2 gItem (pS 0) (pV (eC (.int 0)))))))) (sSeq (sSub 0 (eC (.int 2)) (eOp2 gMod (pV (eOp1 gInt (pV (eOp2 gAdd (pV (eOp2 gMul (pV (eOp2 gItem (pS 0) (pV (eC (.int 2))))) (pV (eC (.int 48271))))) (pV (eC (.int 11))))))) (pV (eC (.int 2147483647)))))
  (sRet (eOp2 gMod (pV (eOp1 gInt (pV (eOp2 gDiv (pV (eOp2 gItem (pS 0) (pV (eC (.int 2))))) (pV (eC (.int 7))))))) (pV (eVar 1))))) sNil)
  (sSeq (sSet 3 (eOp2 gItem (pV (eOp2 gItem (pS 0) (pV (eC (.int 0))))) (pV (eOp2 gSub (pV (eOp2 gItem (pS 0) (pV (eC (.int 1))))) (pV (eC (.int 1)))))))
  (sSeq (sSub 0 (eC (.int 2)) (eOp2 gMod (pV (eOp1 gInt (pV (eOp2 gAdd (pV (eOp2 gAdd (pV (eOp2 gMul (pV (eOp2 gItem (pS 0) (pV (eC (.int 2))))) (pV (eC (.int 48271))))) (pV (eVar 3)))) (pV (eC (.int 11))))))) (pV (eC (.int 2147483647)))))
  (sSeq (sIf (bOp2 gGe (pV (eVar 3)) (pV (eOp2 gPow (pV (eC (.int 10))) (pV (eC (.int 18)))))) (sSub 0 (eC (.int 3)) (eOp2 gDiv (pV (eVar 3)) (pV (eVar 1)))) sNil)
  (sRet (eOp2 gMod (pV (eOp1 gInt (pV (eVar 3)))) (pV (eVar 1))))))))))
def F_taken : Fn := runDef 4 2 (fun i => [true, true].getD i false) B_taken
theorem taken_ok {ns : List Int} {o : O} {m : Int} (h : Rw ns o) (hm : 0 < m) (hm2 : m < 1073741824) :
    ∃ v o', F_taken [o, .d (.int m)] = some (.d (.int v), [some o', some (.d (.int m))]) ∧ 0 ≤ v ∧ v < m ∧ Rw ns o' := by
  obtain ⟨p, s, r, hp, rfl⟩ := h
  by_cases hr : 0 < r
  · refine ⟨r % m, .l [.list (ns.map .int), .int p, .int s, .int (r / m)], ?_, Int.emod_nonneg _ (by omega), Int.emod_lt_of_pos _ hm, p, s, r / m, hp, rfl⟩
    unfold F_taken runDef B_taken
    simp [sSeq, sIf, bOp2, eOp2, eOp1, pV, pS, eC, eVar, slot, res, gItem, oSeq, oInt, dItem, L2.atI, L2.ixN, gGt, hr, sSet, gMod, gInt, hm, sSub, oOwn, frz, gDiv, hm2, sRet, fins]
  · by_cases hl : p + 1 > ns.length
    · refine ⟨(s * 48271 + 11) % 2147483647 / 7 % m, .l [.list (ns.map .int), .int (p + 1), .int ((s * 48271 + 11) % 2147483647), .int r], ?_, Int.emod_nonneg _ (by omega), Int.emod_lt_of_pos _ hm, p + 1, _, r, by omega, rfl⟩
      have hl' : (ns.length : Int) < p + 1 := hl
      unfold F_taken runDef B_taken
      simp [sSeq, sIf, bOp2, eOp2, eOp1, pV, pS, eC, eVar, slot, res, gItem, oSeq, oInt, dItem, L2.atI, L2.ixN, gGt, hr, sSet, gMod, gInt, hm, sSub, oOwn, frz, gDiv, hm2, sRet, fins, sNil, gAdd, gLen, hl', gMul]
    · have hl' : ¬ (ns.length : Int) < p + 1 := by omega
      have hi : p.toNat < ns.length := by omega
      have hx : ns[p.toNat]? = some ns[p.toNat] := List.getElem?_eq_getElem hi
      have e1 : p + 1 - 1 = p := by omega
      have e2 : p < (ns.length : Int) := by omega
      generalize hc : ns[p.toNat] = c at hx
      by_cases hb : c ≥ 10 ^ 18
      · refine ⟨c % m, .l [.list (ns.map .int), .int (p + 1), .int ((s * 48271 + c + 11) % 2147483647), .int (c / m)], ?_, Int.emod_nonneg _ (by omega), Int.emod_lt_of_pos _ hm, p + 1, _, _, by omega, rfl⟩
        have hb' : (1000000000000000000 : Int) ≤ c := hb
        unfold F_taken runDef B_taken
        simp [sSeq, sIf, bOp2, eOp2, eOp1, pV, pS, eC, eVar, slot, res, gItem, oSeq, oInt, dItem, L2.atI, L2.ixN, gGt, hr, sSet, sSetF, gMod, gInt, hm, sSub, oOwn, frz, gDiv, hm2, sRet, fins, sNil, gAdd, gLen, hl', gMul, gSub, hp, e1, e2, hx, gGe, gPow, hb', hc]
      · refine ⟨c % m, .l [.list (ns.map .int), .int (p + 1), .int ((s * 48271 + c + 11) % 2147483647), .int r], ?_, Int.emod_nonneg _ (by omega), Int.emod_lt_of_pos _ hm, p + 1, _, _, by omega, rfl⟩
        have hb' : ¬ (1000000000000000000 : Int) ≤ c := fun z => hb z
        unfold F_taken runDef B_taken
        simp [sSeq, sIf, bOp2, eOp2, eOp1, pV, pS, eC, eVar, slot, res, gItem, oSeq, oInt, dItem, L2.atI, L2.ixN, gGt, hr, sSet, sSetF, gMod, gInt, hm, sSub, oOwn, frz, gDiv, hm2, sRet, fins, sNil, gAdd, gLen, hl', gMul, gSub, hp, e1, e2, hx, gGe, gPow, hb', hc]

/-! ### found and due are the same data -/
def F_alike : Nat → Fn
  | 0 => fun _ => none
  | n + 1 => runDef 3 2 (fun i => [true, true].getD i false)
    (sSeq (sIf (bTru (pV (eOp1 (gIsa ["tuple", "list"]) (pV (eVar 1))))) (sSeq (sIf (bOr (bNot (bTru (pV (eOp1 (gIsa ["tuple", "list"]) (pV (eVar 0)))))) (bOp2 gNe (pV (eOp1 (gIsa ["list"]) (pV (eVar 0)))) (pV (eOp1 (gIsa ["list"]) (pV (eVar 1)))))) (sRet (eC (.bool false))) sNil)
  (sSeq (sIf (bOp2 gNe (pV (eOp1 gLen (pV (eVar 0)))) (pV (eOp1 gLen (pV (eVar 1))))) (sRet (eC (.bool false))) sNil)
  (sRet (eOp2 (gB gEq) (pV (eComp [2] (iRange (eOp1 gLen (pV (eVar 1)))) (tName 2) (bNot (bTru (pV (eCall (F_alike n) [none, none] (aCons (eOp2 gItem (pV (eVar 0)) (pV (eVar 2))) (aCons (eOp2 gItem (pV (eVar 1)) (pV (eVar 2))) aNil)))))) (eVar 2))) (pV (eLst aNil)))))) sNil)
  (sSeq (sIf (bOr (bOp2 gIs (pV (eVar 1)) (pV (eC .none))) (bTru (pV (eOp1 (gIsa ["str"]) (pV (eVar 1)))))) (sRet (eAnd (eOp2 (gB gEq) (pV (eVar 0)) (pV (eVar 1))) (eOp2 (gB gEq) (pV (eOp1 (gIsa ["str"]) (pV (eVar 0)))) (pV (eOp1 (gIsa ["str"]) (pV (eVar 1))))))) sNil)
  (sRet (eAnd (eOp1 (gIsa ["int"]) (pV (eVar 0))) (eAnd (eOp2 (gB gEq) (pV (eOp1 (gIsa ["bool"]) (pV (eVar 0)))) (pV (eOp1 (gIsa ["bool"]) (pV (eVar 1))))) (eOp2 (gB gEq) (pV (eVar 0)) (pV (eVar 1))))))))
mutual
/-- data that alike takes within n turns -/
def fitD : Nat → D → Bool
  | 0, _ => false
  | _ + 1, .none => true
  | _ + 1, .bool _ => true
  | _ + 1, .int _ => true
  | _ + 1, .str s => SeqAt.shaped (.str s)
  | n + 1, .list xs => decide (xs.length ≤ 1000000) && fitAll n xs
  | n + 1, .tuple xs => decide (xs.length ≤ 1000000) && fitAll n xs
  | _ + 1, .dict _ => false
def fitAll : Nat → List D → Bool
  | _, [] => true
  | n, x :: xs => fitD n x && fitAll n xs
end
theorem fitAll_mem {n : Nat} : ∀ {xs : List D} {i : Nat} {x : D}, fitAll n xs = true → xs[i]? = some x → fitD n x = true
  | x :: xs, 0, y, h, e => by
    unfold fitAll at h
    simp only [Bool.and_eq_true] at h
    cases e
    exact h.1
  | x :: xs, i + 1, y, h, e => by
    unfold fitAll at h
    simp only [Bool.and_eq_true] at h
    exact fitAll_mem (i := i) h.2 (by simpa using e)
theorem shaped_bool (b : Bool) : SeqAt.shaped (.bool b) = true := by cases b <;> rfl
theorem shaped_int (b : Int) : SeqAt.shaped (.int b) = true := by rfl
theorem shaped_none : SeqAt.shaped .none = true := by rfl
theorem shaped_nil : SeqAt.shaped (.list []) = true := by rfl
theorem eqv_bool (b c : Bool) : PyData.eqv (.bool b) (.bool c) = (b == c) := by simp [PyData.eqv]
theorem eqv_int (b c : Int) : PyData.eqv (.int b) (.int c) = (b == c) := by simp [PyData.eqv]
theorem eqv_str (b c : Str) : PyData.eqv (.str b) (.str c) = (b == c) := by simp [PyData.eqv]
theorem eqv_none : PyData.eqv .none .none = true := by simp [PyData.eqv]
theorem eqv_nil : PyData.eqv (.list []) (.list []) = true := by simp [PyData.eqv, PyData.eqvAll]
theorem alike_refl : ∀ (n : Nat) (x : D), fitD n x = true → F_alike n [.d x, .d x] = some (.d (.bool true), [some (.d x), some (.d x)])
  | 0, x, h => by simp [fitD] at h
  | n + 1, x, h => by
    have seq : ∀ (xs : List D), (x = .list xs ∨ x = .tuple xs) → xs.length ≤ 1000000 → fitAll n xs = true →
        compLoop [2] (tName 2) (bNot (bTru (pV (eCall (F_alike n) [none, none] (aCons (eOp2 gItem (pV (eVar 0)) (pV (eVar 2))) (aCons (eOp2 gItem (pV (eVar 1)) (pV (eVar 2))) aNil)))))) (eVar 2) (rangeD 0 (xs.length : Int)) [some (.d x), some (.d x), none] = some ([], [some (.d x), some (.d x), none]) := by
      intro xs hx hl hf
      have hq : oSeq (.d x) = some xs := by rcases hx with rfl | rfl <;> rfl
      rw [rangeD_zero, compLoop_pure (fun _ => false) id]
      · simp
      · intro y hy
        obtain ⟨k, hk, rfl⟩ := List.mem_map.mp hy
        have hk' := List.mem_range.mp hk
        have hxk : xs[k]? = some xs[k] := List.getElem?_eq_getElem hk'
        have ih := alike_refl n xs[k] (fitAll_mem hf hxk)
        have hk2 : (k : Int) < (xs.length : Int) := by omega
        refine ⟨[some (.d x), some (.d x), some (.d (.int k))], [some (.d x), some (.d x), some (.d (.int k))], by simp [tName], ?_, fun _ => by simp [wipeE], fun z => by cases z⟩
        simp [-oSeq, bNot, bTru, pV, eCall, aCons, eOp2, eVar, slot, res, gItem, hq, oInt, dItem, L2.atI, L2.ixN, hk2, hxk, ih, aNil, oTru, putBack, clearE]
    cases x with
    | none =>
      unfold F_alike runDef
      simp [sSeq, sIf, bTru, eOp1, pV, eVar, slot, res, gIsa, tyName, isaTy, oTru, sNil, bOr, bOp2, eOp2, eC, gIs, gIsN, sRet, eAnd, gB, gEq, oDat, shaped_none, eqv_none, shaped_bool, eqv_bool, oBool, fins]
    | bool b =>
      unfold F_alike runDef
      simp [sSeq, sIf, bTru, eOp1, pV, eVar, slot, res, gIsa, tyName, isaTy, oTru, sNil, bOr, bOp2, eOp2, eC, gIs, gIsN, sRet, eAnd, gB, gEq, oDat, shaped_none, eqv_none, shaped_bool, eqv_bool, oBool, fins]
    | int i =>
      unfold F_alike runDef
      simp [sSeq, sIf, bTru, eOp1, pV, eVar, slot, res, gIsa, tyName, isaTy, oTru, sNil, bOr, bOp2, eOp2, eC, gIs, gIsN, sRet, eAnd, gB, gEq, oDat, shaped_none, eqv_none, shaped_bool, eqv_bool, oBool, fins, shaped_int, eqv_int]
    | str i =>
      have shaped_str : SeqAt.shaped (.str i) = true := by simpa [fitD] using h
      unfold F_alike runDef
      simp [sSeq, sIf, bTru, eOp1, pV, eVar, slot, res, gIsa, tyName, isaTy, oTru, sNil, bOr, bOp2, eOp2, eC, gIs, gIsN, sRet, eAnd, gB, gEq, oDat, shaped_none, eqv_none, shaped_bool, eqv_bool, oBool, fins, shaped_str, eqv_str]
    | list xs =>
      unfold fitD at h
      simp only [Bool.and_eq_true, decide_eq_true_eq] at h
      have hs := seq xs (.inl rfl) h.1 h.2
      have hl : (xs.length : Int) ≤ 1000000 := by omega
      have hl2 : (-1000000 : Int) ≤ (xs.length : Int) := by omega
      have hl3 : (rangeD 0 (xs.length : Int)).length ≤ 1000000 := by rw [rangeD_zero]; simpa using h.1
      unfold F_alike runDef
      simp [sSeq, sIf, bTru, bNot, eOp1, pV, eVar, slot, res, gIsa, tyName, isaTy, oTru, sNil, bOr, bOp2, eOp2, eC, gIs, gIsN, sRet, eAnd, gB, gEq, gNe, oDat, shaped_none, eqv_none, shaped_bool, eqv_bool, oBool, fins, shaped_int, eqv_int, gLen, oSeq, eComp, iRange, oInt, hl, hl2, hl3, plainE, wipeE, hs, backE, eLst, aNil, frzAll, shaped_nil, eqv_nil]
    | tuple xs =>
      unfold fitD at h
      simp only [Bool.and_eq_true, decide_eq_true_eq] at h
      have hs := seq xs (.inr rfl) h.1 h.2
      have hl : (xs.length : Int) ≤ 1000000 := by omega
      have hl2 : (-1000000 : Int) ≤ (xs.length : Int) := by omega
      have hl3 : (rangeD 0 (xs.length : Int)).length ≤ 1000000 := by rw [rangeD_zero]; simpa using h.1
      unfold F_alike runDef
      simp [sSeq, sIf, bTru, bNot, eOp1, pV, eVar, slot, res, gIsa, tyName, isaTy, oTru, sNil, bOr, bOp2, eOp2, eC, gIs, gIsN, sRet, eAnd, gB, gEq, gNe, oDat, shaped_none, eqv_none, shaped_bool, eqv_bool, oBool, fins, shaped_int, eqv_int, gLen, oSeq, eComp, iRange, oInt, hl, hl2, hl3, plainE, wipeE, hs, backE, eLst, aNil, frzAll, shaped_nil, eqv_nil]
    | dict kvs => simp [fitD] at h
end Sh

/-! the meaning of the defs of shiftcore_k65_whole_numbers_of_cycles, printed by gen.py -/
namespace Sh.K65
open PySem Sh
def F_law_alike : Nat → Fn
  | 0 => fun _ => none
  | n + 1 => runDef 3 2 (fun i => [true, true].getD i false)
    (sSeq (sIf (bTru (pV (eOp1 (gIsa ["tuple", "list"]) (pV (eVar 1))))) (sSeq (sIf (bOr (bNot (bTru (pV (eOp1 (gIsa ["tuple", "list"]) (pV (eVar 0)))))) (bOp2 gNe (pV (eOp1 (gIsa ["list"]) (pV (eVar 0)))) (pV (eOp1 (gIsa ["list"]) (pV (eVar 1)))))) (sRet (eC (.bool false))) sNil)
  (sSeq (sIf (bOp2 gNe (pV (eOp1 gLen (pV (eVar 0)))) (pV (eOp1 gLen (pV (eVar 1))))) (sRet (eC (.bool false))) sNil)
  (sRet (eOp2 (gB gEq) (pV (eComp [2] (iRange (eOp1 gLen (pV (eVar 1)))) (tName 2) (bNot (bTru (pV (eCall (F_law_alike n) [none, none] (aCons (eOp2 gItem (pV (eVar 0)) (pV (eVar 2))) (aCons (eOp2 gItem (pV (eVar 1)) (pV (eVar 2))) aNil)))))) (eVar 2))) (pV (eLst aNil)))))) sNil)
  (sSeq (sIf (bOr (bOp2 gIs (pV (eVar 1)) (pV (eC .none))) (bTru (pV (eOp1 (gIsa ["str"]) (pV (eVar 1)))))) (sRet (eAnd (eOp2 (gB gEq) (pV (eVar 0)) (pV (eVar 1))) (eOp2 (gB gEq) (pV (eOp1 (gIsa ["str"]) (pV (eVar 0)))) (pV (eOp1 (gIsa ["str"]) (pV (eVar 1))))))) sNil)
  (sRet (eAnd (eOp1 (gIsa ["int"]) (pV (eVar 0))) (eAnd (eOp2 (gB gEq) (pV (eOp1 (gIsa ["bool"]) (pV (eVar 0)))) (pV (eOp1 (gIsa ["bool"]) (pV (eVar 1))))) (eOp2 (gB gEq) (pV (eVar 0)) (pV (eVar 1))))))))
def B_law_has_band : Sx :=
  (sSeq (sFor (iRange (eOp2 gSub (pV (eOp1 gLen (pV (eVar 0)))) (pV (eC (.int 1))))) (tName 1) (sSeq (sSet 2 (eVar 1))
  (sFor (iRange (eOp1 gLen (pV (eVar 0)))) (tName 3) (sSeq (sIf (bOp2 gNe (pV (eOp1 gAbs (pV (eOp2 gSub (pV (eOp2 gItem (pV (eVar 0)) (pV (eOp2 gAdd (pV (eVar 2)) (pV (eC (.int 1))))))) (pV (eOp2 gItem (pV (eVar 0)) (pV (eVar 2)))))))) (pV (eC (.int 1)))) sBrk sNil)
  (sSeq (sSetF 2 (eOp2 gMin2 (pV (eOp2 gItem (pV (eVar 0)) (pV (eVar 2)))) (pV (eOp2 gItem (pV (eVar 0)) (pV (eOp2 gAdd (pV (eVar 2)) (pV (eC (.int 1)))))))))
  (sIf (bOp2 gEq (pV (eVar 2)) (pV (eVar 1))) (sRet (eC (.bool true))) sNil))))))
  (sRet (eC (.bool false))))
def F_law_has_band : Fn := runDef 4 1 (fun i => [true].getD i false) B_law_has_band
def B_law_taken : Sx :=
  (sSeq (sIf (bOp2 gGt (pV (eOp2 gItem (pS 0) (pV (eC (.int 3))))) (pV (eC (.int 0)))) (sSeq (sSet 2 (eOp2 gMod (pV (eOp1 gInt (pV (eOp2 gItem (pS 0) (pV (eC (.int 3))))))) (pV (eVar 1))))
  (sSeq (sSub 0 (eC (.int 3)) (eOp2 gDiv (pV (eOp2 gItem (pS 0) (pV (eC (.int 3))))) (pV (eVar 1))))
  (sRet (eVar 2)))) sNil)
  (sSeq (sSub 0 (eC (.int 1)) (eOp2 gAdd (pV (eOp2 gItem (pS 0) (pV (eC (.int 1))))) (pV (eC (.int 1)))))
  (sSeq (sIf (bOp2 gGt (pV (eOp2 gItem (pS 0) (pV (eC (.int 1))))) (pV (eOp1 gLen (pV (eOp2 gItem (pS 0) (pV (eC (.int 0)))))))) (sSeq (sSub 0 (eC (.int 2)) (eOp2 gMod (pV (eOp1 gInt (pV (eOp2 gAdd (pV (eOp2 gMul (pV (eOp2 gItem (pS 0) (pV (eC (.int 2))))) (pV (eC (.int 48271))))) (pV (eC (.int 11))))))) (pV (eC (.int 2147483647)))))
  (sRet (eOp2 gMod (pV (eOp1 gInt (pV (eOp2 gDiv (pV (eOp2 gItem (pS 0) (pV (eC (.int 2))))) (pV (eC (.int 7))))))) (pV (eVar 1))))) sNil)
  (sSeq (sSet 3 (eOp2 gItem (pV (eOp2 gItem (pS 0) (pV (eC (.int 0))))) (pV (eOp2 gSub (pV (eOp2 gItem (pS 0) (pV (eC (.int 1))))) (pV (eC (.int 1)))))))
  (sSeq (sSub 0 (eC (.int 2)) (eOp2 gMod (pV (eOp1 gInt (pV (eOp2 gAdd (pV (eOp2 gAdd (pV (eOp2 gMul (pV (eOp2 gItem (pS 0) (pV (eC (.int 2))))) (pV (eC (.int 48271))))) (pV (eVar 3)))) (pV (eC (.int 11))))))) (pV (eC (.int 2147483647)))))
  (sSeq (sIf (bOp2 gGe (pV (eVar 3)) (pV (eOp2 gPow (pV (eC (.int 10))) (pV (eC (.int 18)))))) (sSub 0 (eC (.int 3)) (eOp2 gDiv (pV (eVar 3)) (pV (eVar 1)))) sNil)
  (sRet (eOp2 gMod (pV (eOp1 gInt (pV (eVar 3)))) (pV (eVar 1))))))))))
def F_law_taken : Fn := runDef 4 2 (fun i => [true, true].getD i false) B_law_taken
def B_law_pattern : Sx :=
  (sSeq (sSetF 3 (eOp2 gAdd (pV (eVar 1)) (pV (eCall F_law_taken [some 0, none] (aOwn 0 (aCons (eFr (eOp2 gAdd (pV (eOp2 gSub (pV (eVar 2)) (pV (eVar 1)))) (pV (eC (.int 1))))) aNil))))))
  (sSeq (sPar3 4 5 6 (eFr (eComp [9] (iRange2 (eC (.int 1)) (eVar 3)) (tName 9) bYes (eVar 9))) (eC (.int 0)) (eComp [9] (iRange (eVar 3)) (tName 9) bYes (eC (.int 0))))
  (sSeq (sFor (iRange (eOp2 gSub (pV (eVar 3)) (pV (eC (.int 1))))) (tName 7) (sSeq (sSet 8 (eOp2 gItem (pV (eVar 4)) (pV (eCall F_law_taken [some 0, none] (aOwn 0 (aCons (eFr (eOp1 gLen (pV (eVar 4)))) aNil))))))
  (sSeq (sSetF 4 (eComp [9] (iSeq (eVar 4)) (tName 9) (bOp2 gNe (pV (eVar 9)) (pV (eVar 8))) (eVar 9)))
  (sParN [oSub 6 (eVar 5), oName 5] (aCons (eVar 8) (aCons (eVar 8) aNil))))))
  (sSeq (sSub 6 (eVar 5) (eC (.int 0)))
  (sRet (eOp1 gTuple (pS 6)))))))
def F_law_pattern : Fn := runDef 10 3 (fun i => [true, true, true].getD i false) B_law_pattern
def B_law_next : Sx :=
  (sSeq (sSetF 3 (eOp2 gMin2 (pV (eOp2 gDiv (pV (eVar 1)) (pV (eVar 2)))) (pV (eOp2 gSub (pV (eOp1 gLen (pV (eVar 0)))) (pV (eC (.int 2)))))))
  (sRet (eOp2 gAdd (pV (eOp2 gMul (pV (eOp2 gItem (pV (eVar 0)) (pV (eVar 3)))) (pV (eVar 2)))) (pV (eOp2 gMul (pV (eOp2 gSub (pV (eOp2 gItem (pV (eVar 0)) (pV (eOp2 gAdd (pV (eVar 3)) (pV (eC (.int 1))))))) (pV (eOp2 gItem (pV (eVar 0)) (pV (eVar 3)))))) (pV (eOp2 gSub (pV (eVar 1)) (pV (eOp2 gMul (pV (eVar 3)) (pV (eVar 2)))))))))))
def F_law_next : Fn := runDef 4 3 (fun i => [true, true, true].getD i false) B_law_next
def B_law_points : Sx :=
  (sSeq (sPar2 2 3 (eFr (eComp [18] (iRange (eOp2 gSub (pV (eOp1 gLen (pV (eVar 0)))) (pV (eC (.int 1))))) (tName 18) bYes (eTup (aCons (eTup aNil) (aCons (eVar 18) (aCons (eC (.int 1)) (aCons (eC (.int 0)) aNil))))))) (eLst aNil))
  (sSeq (sFor (iRange (eVar 1)) (tName 4) (sSeq (sSetF 5 (eLst aNil))
  (sSeq (sFor (iSeq (eVar 2)) (tTupl [(tName 6), (tName 7), (tName 8), (tName 9)]) (sSeq (sPar2 10 11 (eFr (eOp1 gMinQ (pV (eCut (pV (eVar 0)) (hAt (eVar 7)) (hAt (eOp2 gAdd (pV (eVar 7)) (pV (eC (.int 2))))))))) (eFr (eOp1 gMaxQ (pV (eCut (pV (eVar 0)) (hAt (eVar 7)) (hAt (eOp2 gAdd (pV (eVar 7)) (pV (eC (.int 2))))))))))
  (sSeq (sSet 12 (eOp2 gSub (pV (eOp2 gItem (pV (eVar 0)) (pV (eOp2 gAdd (pV (eVar 7)) (pV (eC (.int 1))))))) (pV (eOp2 gItem (pV (eVar 0)) (pV (eVar 7))))))
  (sSeq (sSet 13 (eTup (aCons (eOp2 gAdd (pV (eVar 6)) (pV (eTup (aCons (eVar 7) aNil)))) (aCons (eOp2 gMul (pV (eVar 12)) (pV (eVar 8))) (aCons (eOp2 gSub (pV (eOp2 gAdd (pV (eOp2 gMul (pV (eVar 12)) (pV (eVar 9)))) (pV (eOp2 gItem (pV (eVar 0)) (pV (eVar 7)))))) (pV (eOp2 gMul (pV (eVar 12)) (pV (eVar 7))))) aNil)))))
  (sSetF 5 (eOp2 gAdd (pV (eVar 5)) (pV (eComp [19] (iRange2 (eVar 10) (eVar 11)) (tName 19) bYes (eTup (aCons (eOp2 gItem (pV (eVar 13)) (pV (eC (.int 0)))) (aCons (eVar 19) (aCons (eOp2 gItem (pV (eVar 13)) (pV (eC (.int 1)))) (aCons (eOp2 gItem (pV (eVar 13)) (pV (eC (.int 2)))) aNil)))))))))))))
  (sSet 2 (eVar 5)))))
  (sSeq (sFor (iSeq (eVar 2)) (tTupl [(tName 6), (tName 7), (tName 8), (tName 9)]) (sIf (bAnd (bOp2 gEq (pV (eVar 7)) (pV (eOp2 gItem (pV (eVar 6)) (pV (eC (.int 0)))))) (bOp2 gNe (pV (eVar 8)) (pV (eC (.int 1))))) (sSeq (sTg (tTupl [(tName 14), (tName 15)]) (eIf (bOp2 gLt (pV (eVar 8)) (pV (eC (.int 1)))) (eTup (aCons (eVar 9) (aCons (eOp2 gSub (pV (eC (.int 1))) (pV (eVar 8))) aNil))) (eTup (aCons (eOp2 gSub (pV (eC (.int 0))) (pV (eVar 9))) (aCons (eOp2 gSub (pV (eVar 8)) (pV (eC (.int 1)))) aNil)))))
  (sSeq (sPar2 16 17 (eFr (eCall F_law_next [none, none, none] (aCons (eVar 0) (aCons (eVar 14) (aCons (eVar 15) aNil))))) (eC (.int 1)))
  (sSeq (sFor (iRange (eVar 1)) (tName 4) (sSeq (sIf (bOp2 gEq (pV (eVar 16)) (pV (eVar 14))) sBrk sNil)
  (sPar2 16 17 (eFr (eCall F_law_next [none, none, none] (aCons (eVar 0) (aCons (eVar 16) (aCons (eVar 15) aNil))))) (eFr (eOp2 gAdd (pV (eVar 17)) (pV (eC (.int 1))))))))
  (sIf (bOp2 gEq (pV (eVar 17)) (pV (eVar 1))) (sApp 3 (eTup (aCons (eVar 14) (aCons (eVar 15) aNil)))) sNil)))) sNil))
  (sRetS 3))))
def F_law_points : Fn := runDef 20 2 (fun i => [true, true].getD i false) B_law_points
def S_law_told (bo : Str → Bool) (fl : Option (Str × D)) (a : Addr) : Sx :=
  (sRet (eIf (bAnd (bTru (pV (eIsE a 1 (bo "TooMany")))) (bOp2 gEq (pV (eFldE a 1 "most" fl)) (pV (eC (.int 1))))) (eC (.str "many")) (eC (.str "other"))))
def bo_law_told (c q : Str) : Bool := (([("TooMany", "TooMany")] : List (Str × Str)).any fun p => p.1 == c && p.2 == q)
def ini_law_told (a : Addr) : Ev := (List.replicate 2 none).set 1 (some (.d (rfD a)))
def ok_law_told (y : Xn) : Bool := (y.cls == ("BadNumber" : Str) && y.fld.isNone) || (y.cls == ("BadPattern" : Str) && y.fld.isNone) || (y.cls == ("TooMany" : Str) && okF1 "most" y.fld)
def Cl_law_told (y : Xn) : Option O := if ok_law_told y = true then dropE (S_law_told (bo_law_told y.cls) y.fld 0 (ini_law_told 0)) else none
def B_covered : Sx :=
  (sSeq (sTg (tLstl [(tName 2), (tName 3)]) (eOp1 gSortT (pV (eCut (pV (eVar 0)) (hAt (eVar 1)) (hAt (eOp2 gAdd (pV (eVar 1)) (pV (eC (.int 2)))))))))
  (sRet (eListR (iRange2 (eVar 2) (eVar 3)))))
def F_covered : Fn := runDef 4 2 (fun i => [true, true].getD i false) B_covered
def B_has_band : Sx :=
  (sSeq (sFor (iRange (eOp2 gSub (pV (eOp1 gLen (pV (eVar 0)))) (pV (eC (.int 1))))) (tName 1) (sSeq (sPar2 2 3 (eVar 1) (eDict false))
  (sSeq (sWhile FU (bAnd (bOp2 gDNotIn (pV (eVar 2)) (pS 3)) (bOp2 gEq (pV (eOp1 gLen (pV (eCall F_covered [none, none] (aCons (eVar 0) (aCons (eVar 2) aNil)))))) (pV (eC (.int 1))))) (sSeq (sDPut' 3 (eVar 2) (eC (.bool true)))
  (sSet 2 (eOp2 gItem (pV (eCall F_covered [none, none] (aCons (eVar 0) (aCons (eVar 2) aNil)))) (pV (eC (.int 0)))))))
  (sIf (bAnd (bOp2 gEq (pV (eVar 2)) (pV (eVar 1))) (bOp2 gDIn (pV (eVar 2)) (pS 3))) (sRet (eC (.bool true))) sNil))))
  (sRet (eC (.bool false))))
def F_has_band : Fn := runDef 4 1 (fun i => [true].getD i false) B_has_band
def B_is_in : Sx :=
  (sRet (eAnd (eOp1 (gIsa ["int"]) (pV (eVar 0))) (eAnd (eNot (eOp1 (gIsa ["bool"]) (pV (eVar 0)))) (eChain gLe gLe (eVar 1) (eVar 0) (eVar 2)))))
def F_is_in : Fn := runDef 3 3 (fun i => [true, true, true].getD i false) B_is_in
def B_need_number : Sx :=
  (sIf (bNot (bTru (pV (eCall F_is_in [none, none, none] (aCons (eVar 0) (aCons (eVar 1) (aCons (eVar 2) aNil))))))) (sRaise ⟨"BadNumber", none⟩) sNil)
def F_need_number : FnX := runDefX 3 3 (fun i => [true, true, true].getD i false) B_need_number
def B_need_pattern : Sx :=
  (sSeq (sIf (bOr (bNot (bTru (pV (eOp1 (gIsa ["tuple"]) (pV (eVar 0)))))) (bNot (bChain gLe gLe (eC (.int 1)) (eOp1 gLen (pV (eVar 0))) (eC (.int 9))))) (sRaise ⟨"BadPattern", none⟩) sNil)
  (sSeq (sIf (bNot (bTru (pV (eGenB [3] (iSeq (eVar 0)) (tName 3) bYes (eCall F_is_in [none, none, none] (aCons (eVar 3) (aCons (eC (.int 0)) (aCons (eOp2 gSub (pV (eOp1 gLen (pV (eVar 0)))) (pV (eC (.int 1)))) aNil)))) false)))) (sRaise ⟨"BadPattern", none⟩) sNil)
  (sSeq (sPar2 1 2 (eC (.int 0)) (eDict false))
  (sSeq (sWhile FU (bOp2 gDNotIn (pV (eVar 1)) (pS 2)) (sSeq (sDPut' 2 (eVar 1) (eC (.bool true)))
  (sSet 1 (eOp2 gItem (pV (eVar 0)) (pV (eVar 1))))))
  (sIf (bOp2 gLt (pV (eOp1 gLen (pS 2))) (pV (eOp1 gLen (pV (eVar 0))))) (sRaise ⟨"BadPattern", none⟩) sNil)))))
def F_need_pattern : FnX := runDefX 4 1 (fun i => [true].getD i false) B_need_pattern
def B_repeats : Sx :=
  (sRet (eGenB [1] (iRange2 (eC (.int 1)) (eOp1 gLen (pV (eVar 0)))) (tName 1) bYes (eAnd (eOp2 (gB gEq) (pV (eOp2 gMod (pV (eOp1 gLen (pV (eVar 0)))) (pV (eVar 1)))) (pV (eC (.int 0)))) (eOp2 (gB gEq) (pV (eOp2 gRep (pV (eCut (pV (eVar 0)) hNo (hAt (eVar 1)))) (pV (eOp2 gDiv (pV (eOp1 gLen (pV (eVar 0)))) (pV (eVar 1)))))) (pV (eVar 0)))) true))
def F_repeats : Fn := runDef 2 1 (fun i => [true].getD i false) B_repeats
def B_piece_beside : Sx :=
  (sRet (eIf (bOp2 gEq (pV (eOp2 gItem (pV (eVar 0)) (pV (eC (.int 1))))) (pV (eC (.int 1)))) (eOp2 gItem (pV (eVar 0)) (pV (eC (.int 0)))) (eOp2 gSub (pV (eOp2 gItem (pV (eVar 0)) (pV (eC (.int 0))))) (pV (eC (.int 1))))))
def F_piece_beside : Fn := runDef 1 1 (fun i => [true].getD i false) B_piece_beside
def B_step_beside : Sx :=
  (sSeq (sTg (tTupl [(tName 2), (tName 3)]) (eVar 1))
  (sSeq (sSetF 4 (eIf (bOp2 gGt (pV (eOp2 gItem (pV (eVar 0)) (pV (eOp2 gAdd (pV (eVar 2)) (pV (eVar 3)))))) (pV (eOp2 gItem (pV (eVar 0)) (pV (eVar 2))))) (eC (.int 1)) (eOp1 gNeg (pV (eC (.int 1))))))
  (sRet (eTup (aCons (eOp2 gItem (pV (eVar 0)) (pV (eVar 2))) (aCons (eVar 4) aNil))))))
def F_step_beside : Fn := runDef 5 2 (fun i => [true, true].getD i false) B_step_beside
def B_walk_beside : Sx :=
  (sSeq (sPar2 2 3 (eVar 1) (eLst aNil))
  (sSeq (sWhile FU (bOp2 gLe (pV (eOp1 gLen (pS 3))) (pV (eOp2 gMul (pV (eC (.int 2))) (pV (eOp1 gLen (pV (eVar 0))))))) (sSeq (sApp 3 (eCall F_piece_beside [none] (aCons (eVar 2) aNil)))
  (sSeq (sSetF 2 (eCall F_step_beside [none, none] (aCons (eVar 0) (aCons (eVar 2) aNil))))
  (sIf (bOp2 gEq (pV (eVar 2)) (pV (eVar 1))) (sRetS 3) sNil))))
  (sRet (eC .none))))
def F_walk_beside : Fn := runDef 4 2 (fun i => [true, true].getD i false) B_walk_beside
def B_beside_walks : Sx :=
  (sSeq (sSetF 2 (eOp2 gAdd (pV (eComp [5] (iRange (eOp2 gSub (pV (eOp1 gLen (pV (eVar 0)))) (pV (eC (.int 1))))) (tName 5) bYes (eTup (aCons (eVar 5) (aCons (eC (.int 1)) aNil))))) (pV (eComp [5] (iRange2 (eC (.int 1)) (eOp1 gLen (pV (eVar 0)))) (tName 5) bYes (eTup (aCons (eVar 5) (aCons (eOp1 gNeg (pV (eC (.int 1)))) aNil)))))))
  (sSeq (sSetF 3 (eComp [4] (iSeq (eVar 2)) (tName 4) bYes (eCall F_walk_beside [none, none] (aCons (eVar 0) (aCons (eVar 4) aNil)))))
  (sRet (eOp1 gLen (pV (eComp [6] (iSeq (eVar 3)) (tName 6) (bAnd (bOp2 gIsNot (pV (eVar 6)) (pV (eC .none))) (bAnd (bOp2 gEq (pV (eOp1 gLen (pV (eVar 6)))) (pV (eVar 1))) (bNot (bTru (pV (eCall F_repeats [none] (aCons (eVar 6) aNil))))))) (eVar 6)))))))
def F_beside_walks : Fn := runDef 7 2 (fun i => [true, true].getD i false) B_beside_walks
def B_closed_walks : Sx :=
  (sSeq (sSetF 3 (eComp [2] (iRange (eOp2 gSub (pV (eOp1 gLen (pV (eVar 0)))) (pV (eC (.int 1))))) (tName 2) bYes (eCall F_covered [none, none] (aCons (eVar 0) (aCons (eVar 2) aNil)))))
  (sSeq (sSet 5 (eComp [4] (iRange (eVar 1)) (tName 4) bYes (eC (.int 0))))
  (sSeq (sFor (iRange (eOp1 gLen (pV (eVar 3)))) (tName 6) (sSeq (sSet 7 (eDict1 (eVar 6) (eC (.int 1))))
  (sFor (iRange (eVar 1)) (tName 4) (sSeq (sSet 8 (eDict false))
  (sSeq (sLock 7 (sFor (iDict 7) (tName 2) (sFor (iSeq (eOp2 gItem (pV (eVar 3)) (pV (eVar 2)))) (tName 9) (sDPut' 8 (eVar 9) (eOp2 gAdd (pV (eGet2 8 (eVar 9) (eC (.int 0)))) (pV (eOp2 gDItem (pS 7) (pV (eVar 2)))))))))
  (sSeq (sMove 7 8)
  (sSub 5 (eVar 4) (eOp2 gAdd (pV (eOp2 gItem (pS 5) (pV (eVar 4)))) (pV (eGet2 7 (eVar 6) (eC (.int 0))))))))))))
  (sRetS 5))))
def F_closed_walks : Fn := runDef 10 2 (fun i => [true, true].getD i false) B_closed_walks
def B_simple_walks : Sx :=
  (sSeq (sParN [oName 2, oName 3] (aCons (eFr (eCall F_closed_walks [none, none] (aCons (eVar 0) (aCons (eVar 1) aNil)))) (aCons (eLst aNil) aNil)))
  (sSeq (sFor (iRange2 (eC (.int 1)) (eOp2 gAdd (pV (eVar 1)) (pV (eC (.int 1))))) (tName 4) (sApp 3 (eOp2 gSub (pV (eOp2 gItem (pV (eVar 2)) (pV (eOp2 gSub (pV (eVar 4)) (pV (eC (.int 1))))))) (pV (eGenS [5] (iRange2 (eC (.int 1)) (eVar 4)) (tName 5) (bOp2 gEq (pV (eOp2 gMod (pV (eVar 4)) (pV (eVar 5)))) (pV (eC (.int 0)))) (eOp2 gItem (pS 3) (pV (eOp2 gSub (pV (eVar 5)) (pV (eC (.int 1)))))))))))
  (sRet (eOp2 gItem (pS 3) (pV (eOp1 gNeg (pV (eC (.int 1)))))))))
def F_simple_walks : Fn := runDef 6 2 (fun i => [true, true].getD i false) B_simple_walks
def B_points_of : Sx :=
  (sSeq (sIf (bOp2 gEq (pV (eOp1 gLen (pV (eVar 0)))) (pV (eC (.int 1)))) (sRet (eC (.int 0))) sNil)
  (sRet (eOp2 gSub (pV (eCall F_simple_walks [none, none] (aCons (eVar 0) (aCons (eVar 1) aNil)))) (pV (eCall F_beside_walks [none, none] (aCons (eVar 0) (aCons (eVar 1) aNil)))))))
def F_points_of : Fn := runDef 2 2 (fun i => [true, true].getD i false) B_points_of
def B_count_cycles : Sx :=
  (sSeq (sExprX (xCall F_need_pattern [none] (aCons (eVar 0) aNil)))
  (sSeq (sExprX (xCall F_need_number [none, none, none] (aCons (eVar 1) (aCons (eC (.int 1)) (aCons (eC (.int 60)) aNil)))))
  (sSeq (sIf (bTru (pV (eCall F_has_band [none] (aCons (eVar 0) aNil)))) (sRaise1 "TooMany" "most" (eC (.int 1))) sNil)
  (sRet (eOp2 gAdd (pV (eOp2 gDiv (pV (eCall F_points_of [none, none] (aCons (eVar 0) (aCons (eVar 1) aNil)))) (pV (eVar 1)))) (pV (eIf (bOp2 gEq (pV (eVar 1)) (pV (eOp1 gLen (pV (eVar 0))))) (eC (.int 1)) (eC (.int 0)))))))))
def F_count_cycles : FnX := runDefX 2 2 (fun i => [true, true].getD i false) B_count_cycles
def B_law : Sx :=
  (sSeq (sSet 1 (eLst (aCons (eVar 0) (aCons (eC (.int 0)) (aCons (eC (.int 3365)) (aCons (eC (.int 0)) aNil))))))
  (sSeq (sParN [oName 9, oName 10] (aCons (eFr (eCall F_law_pattern [some 1, none, none] (aOwn 1 (aCons (eC (.int 1)) (aCons (eC (.int 5)) aNil))))) (aCons (eFr (eOp2 gAdd (pV (eC (.int 1))) (pV (eCall F_law_taken [some 1, none] (aOwn 1 (aCons (eC (.int 5)) aNil)))))) aNil)))
  (sSeq (sSetF 2 (eTold true Cl_law_told (xCall F_count_cycles [none, none] (aCons (eVar 9) (aCons (eVar 10) aNil)))))
  (sSeq (sIf (bTru (pV (eCall F_law_has_band [none] (aCons (eVar 9) aNil)))) (sRet (eCall (F_law_alike 12) [none, none] (aCons (eVar 2) (aCons (eC (.str "many")) aNil)))) sNil)
  (sSeq (sSetF 3 (eIf (bOp2 gGt (pV (eOp1 gLen (pV (eVar 9)))) (pV (eC (.int 1)))) (eCall F_law_points [none, none] (aCons (eVar 9) (aCons (eVar 10) aNil))) (eLst aNil)))
  (sSeq (sSetF 4 (eLst aNil))
  (sSeq (sFor (iSeq (eVar 3)) (tTupl [(tName 5), (tName 6)]) (sIf (bAnd (bOp2 gEq (pV (eComp [12] (iRange (eOp1 gLen (pV (eVar 9)))) (tName 12) (bOp2 gEq (pV (eVar 5)) (pV (eOp2 gMul (pV (eVar 12)) (pV (eVar 6))))) (eVar 12))) (pV (eLst aNil))) (bOp2 gNotIn (pV (eTup (aCons (eVar 5) (aCons (eVar 6) aNil)))) (pV (eVar 4)))) (sSeq (sSetF 7 (eComp [11] (iSeq (eVar 4)) (tName 11) (bOp2 gEq (pV (eOp2 gMul (pV (eOp2 gItem (pV (eVar 11)) (pV (eC (.int 0))))) (pV (eVar 6)))) (pV (eOp2 gMul (pV (eVar 5)) (pV (eOp2 gItem (pV (eVar 11)) (pV (eC (.int 1)))))))) (eVar 11)))
  (sSetF 4 (eOp2 gAdd (pV (eVar 4)) (pV (eOp2 gRep (pV (eLst (aCons (eTup (aCons (eVar 5) (aCons (eVar 6) aNil))) aNil))) (pV (eOp1 gInt (pV (eOp2 (gB gEq) (pV (eVar 7)) (pV (eLst aNil))))))))))) sNil))
  (sSeq (sSetF 8 (eOp2 gAdd (pV (eOp2 gDiv (pV (eOp1 gLen (pV (eVar 4)))) (pV (eVar 10)))) (pV (eIf (bOp2 gEq (pV (eVar 10)) (pV (eOp1 gLen (pV (eVar 9))))) (eC (.int 1)) (eC (.int 0))))))
  (sRet (eAnd (eOp2 (gB gEq) (pV (eOp2 gMod (pV (eOp1 gInt (pV (eOp1 gLen (pV (eVar 4)))))) (pV (eVar 10)))) (pV (eC (.int 0)))) (eCall (F_law_alike 12) [none, none] (aCons (eVar 2) (aCons (eVar 8) aNil)))))))))))))
def F_law : Fn := runDef 13 1 (fun i => [true].getD i false) B_law
end Sh.K65

/-! the machine keeps that meaning: printed by gen.py -/
namespace Sh.K65
open PySem PySem.Spec PyProof.Rows L2 Sh
def topS (i : Nat) : Stmt := PySem.Challenge.pw_shiftcore_k65_whole_numbers_of_cycles.main.body.getD i (.Pass ⟨0, 0, 0, 0⟩)
abbrev si_TooMany : Stmt := inClass (topS 4) 0
theorem sc_iTooMany : FnScope ["self", "most"] ["self", "most"] (defScope si_TooMany) := ⟨rfl, rfl, rfl, by decide +kernel, rfl, by decide +kernel, by decide +kernel⟩
abbrev s_law_alike : Stmt := topS 26
abbrev N_law_alike : List Str := ["found", "due", "k"]
theorem sc_law_alike : FnScope N_law_alike ["found", "due"] (defScope s_law_alike) := ⟨rfl, rfl, rfl, by decide +kernel, rfl, by decide +kernel, by decide +kernel⟩
abbrev s_law_has_band : Stmt := topS 32
abbrev N_law_has_band : List Str := ["pattern", "start", "here", "turn"]
theorem sc_law_has_band : FnScope N_law_has_band ["pattern"] (defScope s_law_has_band) := ⟨rfl, rfl, rfl, by decide +kernel, rfl, by decide +kernel, by decide +kernel⟩
abbrev s_law_taken : Stmt := topS 24
abbrev N_law_taken : List Str := ["row", "many", "found", "cell"]
theorem sc_law_taken : FnScope N_law_taken ["row", "many"] (defScope s_law_taken) := ⟨rfl, rfl, rfl, by decide +kernel, rfl, by decide +kernel, by decide +kernel⟩
abbrev s_law_pattern : Stmt := topS 27
abbrev N_law_pattern : List Str := ["row", "least", "most", "many", "left", "here", "found", "turn", "later", "k"]
theorem sc_law_pattern : FnScope N_law_pattern ["row", "least", "most"] (defScope s_law_pattern) := ⟨rfl, rfl, rfl, by decide +kernel, rfl, by decide +kernel, by decide +kernel⟩
abbrev s_law_next : Stmt := topS 29
abbrev N_law_next : List Str := ["pattern", "top", "bottom", "piece"]
theorem sc_law_next : FnScope N_law_next ["pattern", "top", "bottom"] (defScope s_law_next) := ⟨rfl, rfl, rfl, by decide +kernel, rfl, by decide +kernel, by decide +kernel⟩
abbrev s_law_points : Stmt := topS 30
abbrev N_law_points : List Str := ["pattern", "period", "rows", "found", "turn", "more", "walk", "piece", "factor", "shift", "low", "high", "slope", "there", "top", "bottom", "here", "size", "k", "later"]
theorem sc_law_points : FnScope N_law_points ["pattern", "period"] (defScope s_law_points) := ⟨rfl, rfl, rfl, by decide +kernel, rfl, by decide +kernel, by decide +kernel⟩
abbrev s_law_told : Stmt := topS 31
abbrev N_law_told : List Str := ["work", "e"]
theorem sc_law_told : FnScope N_law_told ["work"] (defScope s_law_told) := ⟨rfl, rfl, rfl, by decide +kernel, rfl, by decide +kernel, by decide +kernel⟩
abbrev s_covered : Stmt := topS 11
abbrev N_covered : List Str := ["pattern", "piece", "low", "high"]
theorem sc_covered : FnScope N_covered ["pattern", "piece"] (defScope s_covered) := ⟨rfl, rfl, rfl, by decide +kernel, rfl, by decide +kernel, by decide +kernel⟩
abbrev s_has_band : Stmt := topS 21
abbrev N_has_band : List Str := ["pattern", "start", "here", "seen"]
theorem sc_has_band : FnScope N_has_band ["pattern"] (defScope s_has_band) := ⟨rfl, rfl, rfl, by decide +kernel, rfl, by decide +kernel, by decide +kernel⟩
abbrev s_is_in : Stmt := topS 6
abbrev N_is_in : List Str := ["value", "least", "most"]
theorem sc_is_in : FnScope N_is_in ["value", "least", "most"] (defScope s_is_in) := ⟨rfl, rfl, rfl, by decide +kernel, rfl, by decide +kernel, by decide +kernel⟩
abbrev s_need_number : Stmt := topS 12
abbrev N_need_number : List Str := ["number", "least", "most"]
theorem sc_need_number : FnScope N_need_number ["number", "least", "most"] (defScope s_need_number) := ⟨rfl, rfl, rfl, by decide +kernel, rfl, by decide +kernel, by decide +kernel⟩
abbrev s_need_pattern : Stmt := topS 10
abbrev N_need_pattern : List Str := ["pattern", "here", "seen", "one"]
theorem sc_need_pattern : FnScope N_need_pattern ["pattern"] (defScope s_need_pattern) := ⟨rfl, rfl, rfl, by decide +kernel, rfl, by decide +kernel, by decide +kernel⟩
abbrev s_repeats : Stmt := topS 18
abbrev N_repeats : List Str := ["walk", "size"]
theorem sc_repeats : FnScope N_repeats ["walk"] (defScope s_repeats) := ⟨rfl, rfl, rfl, by decide +kernel, rfl, by decide +kernel, by decide +kernel⟩
abbrev s_piece_beside : Stmt := topS 16
abbrev N_piece_beside : List Str := ["beside"]
theorem sc_piece_beside : FnScope N_piece_beside ["beside"] (defScope s_piece_beside) := ⟨rfl, rfl, rfl, by decide +kernel, rfl, by decide +kernel, by decide +kernel⟩
abbrev s_step_beside : Stmt := topS 15
abbrev N_step_beside : List Str := ["pattern", "beside", "number", "side", "turned"]
theorem sc_step_beside : FnScope N_step_beside ["pattern", "beside"] (defScope s_step_beside) := ⟨rfl, rfl, rfl, by decide +kernel, rfl, by decide +kernel, by decide +kernel⟩
abbrev s_walk_beside : Stmt := topS 17
abbrev N_walk_beside : List Str := ["pattern", "beside", "here", "found"]
theorem sc_walk_beside : FnScope N_walk_beside ["pattern", "beside"] (defScope s_walk_beside) := ⟨rfl, rfl, rfl, by decide +kernel, rfl, by decide +kernel, by decide +kernel⟩
abbrev s_beside_walks : Stmt := topS 19
abbrev N_beside_walks : List Str := ["pattern", "period", "sides", "walks", "beside", "k", "walk"]
theorem sc_beside_walks : FnScope N_beside_walks ["pattern", "period"] (defScope s_beside_walks) := ⟨rfl, rfl, rfl, by decide +kernel, rfl, by decide +kernel, by decide +kernel⟩
abbrev s_closed_walks : Stmt := topS 13
abbrev N_closed_walks : List Str := ["pattern", "length", "piece", "goals", "turn", "found", "start", "ways", "more", "later"]
theorem sc_closed_walks : FnScope N_closed_walks ["pattern", "length"] (defScope s_closed_walks) := ⟨rfl, rfl, rfl, by decide +kernel, rfl, by decide +kernel, by decide +kernel⟩
abbrev s_simple_walks : Stmt := topS 14
abbrev N_simple_walks : List Str := ["pattern", "period", "some", "found", "size", "k"]
theorem sc_simple_walks : FnScope N_simple_walks ["pattern", "period"] (defScope s_simple_walks) := ⟨rfl, rfl, rfl, by decide +kernel, rfl, by decide +kernel, by decide +kernel⟩
abbrev s_points_of : Stmt := topS 20
abbrev N_points_of : List Str := ["pattern", "period"]
theorem sc_points_of : FnScope N_points_of ["pattern", "period"] (defScope s_points_of) := ⟨rfl, rfl, rfl, by decide +kernel, rfl, by decide +kernel, by decide +kernel⟩
abbrev s_count_cycles : Stmt := topS 22
abbrev N_count_cycles : List Str := ["pattern", "period"]
theorem sc_count_cycles : FnScope N_count_cycles ["pattern", "period"] (defScope s_count_cycles) := ⟨rfl, rfl, rfl, by decide +kernel, rfl, by decide +kernel, by decide +kernel⟩
abbrev s_law : Stmt := topS 33
abbrev N_law : List Str := ["script", "row", "found", "some", "values", "top", "bottom", "same", "due", "pattern", "period", "one", "k"]
theorem sc_law : FnScope N_law ["script"] (defScope s_law) := ⟨rfl, rfl, rfl, by decide +kernel, rfl, by decide +kernel, by decide +kernel⟩
structure Tx (K : PySem.W.Frag) (mg : Str → Option Value) (f_law_alike f_law_has_band f_law_taken f_law_pattern f_law_next f_law_points f_law_told f_covered f_has_band f_is_in f_need_number f_need_pattern f_repeats f_piece_beside f_step_beside f_walk_beside f_beside_walks f_closed_walks f_simple_walks f_points_of f_count_cycles f_law : Addr) (fd_law_alike fd_law_has_band fd_law_taken fd_law_pattern fd_law_next fd_law_points fd_law_told fd_covered fd_has_band fd_is_in fd_need_number fd_need_pattern fd_repeats fd_piece_beside fd_step_beside fd_walk_beside fd_beside_walks fd_closed_walks fd_simple_walks fd_points_of fd_count_cycles fd_law : FuncData) (u_MOST_PATTERN u_MOST_PERIOD : Value) (C_BadNumber C_BadPattern C_ShiftError C_TooMany I_TooMany : Addr) (J_TooMany : FuncData) (c_need_pattern P_need_pattern c_repeats P_repeats c_simple_walks P_simple_walks c_law P_law : Addr) (base : Heap) (T : TabsT) : Prop where
  tb_need_pattern : GxR.TabB base mg c_need_pattern P_need_pattern
  tp_need_pattern : (P_need_pattern, none) ∈ T.1
  cd_need_pattern : fd_need_pattern.code = .ref c_need_pattern
  tb_repeats : GxR.TabB base mg c_repeats P_repeats
  tp_repeats : (P_repeats, none) ∈ T.1
  cd_repeats : fd_repeats.code = .ref c_repeats
  tb_simple_walks : GxR.TabB base mg c_simple_walks P_simple_walks
  tp_simple_walks : (P_simple_walks, none) ∈ T.1
  cd_simple_walks : fd_simple_walks.code = .ref c_simple_walks
  tl_law : LamX.TabB base mg c_law P_law
  tq_law : (P_law, some ("law.<locals>.<lambda>" : Str)) ∈ T.1
  cd_law : fd_law.code = .ref c_law
  m_abs : mg "abs" = none
  m_all : mg "all" = none
  m_any : mg "any" = none
  m_bool : mg "bool" = none
  m_int : mg "int" = none
  m_isinstance : mg "isinstance" = none
  m_len : mg "len" = none
  m_list : mg "list" = none
  m_max : mg "max" = none
  m_min : mg "min" = none
  m_range : mg "range" = none
  m_sorted : mg "sorted" = none
  m_str : mg "str" = none
  m_sum : mg "sum" = none
  m_tuple : mg "tuple" = none
  g_MOST_PATTERN : mg "MOST_PATTERN" = some u_MOST_PATTERN
  r_MOST_PATTERN : RelV (.int 9) u_MOST_PATTERN
  g_MOST_PERIOD : mg "MOST_PERIOD" = some u_MOST_PERIOD
  r_MOST_PERIOD : RelV (.int 60) u_MOST_PERIOD
  xc_BadNumber : mg "BadNumber" = some (.ref C_BadNumber)
  xf_BadNumber : ExF K mg "BadNumber" C_BadNumber
  xm_BadNumber : PySem.W.exmOne K (.ref C_BadNumber) (.ref C_ShiftError) = some true
  xe_BadNumber : excB K C_BadNumber = true
  xq_BadNumber_TooMany : PySem.W.kitOne K (.ref C_BadNumber) (.ref C_TooMany) = some (bo_law_told "BadNumber" "TooMany")
  xc_BadPattern : mg "BadPattern" = some (.ref C_BadPattern)
  xf_BadPattern : ExF K mg "BadPattern" C_BadPattern
  xm_BadPattern : PySem.W.exmOne K (.ref C_BadPattern) (.ref C_ShiftError) = some true
  xe_BadPattern : excB K C_BadPattern = true
  xq_BadPattern_TooMany : PySem.W.kitOne K (.ref C_BadPattern) (.ref C_TooMany) = some (bo_law_told "BadPattern" "TooMany")
  xc_ShiftError : mg "ShiftError" = some (.ref C_ShiftError)
  xc_TooMany : mg "TooMany" = some (.ref C_TooMany)
  xo_TooMany : OexC K C_TooMany
  xn_TooMany : PySem.W.findIn K (.ref C_TooMany) "most" = some none
  xi_TooMany : PySem.W.findIn K (.ref C_TooMany) "__init__" = some (some (.ref I_TooMany))
  xt_TooMany : PySem.W.typeIn K (.ref I_TooMany) = some (.type "function")
  xF_TooMany : L2.Fun K "__init__" "TooMany.__init__" si_TooMany I_TooMany J_TooMany
  xb_TooMany : Binds K J_TooMany ["self", "most"] []
  xm_TooMany : PySem.W.exmOne K (.ref C_TooMany) (.ref C_ShiftError) = some true
  xe_TooMany : excB K C_TooMany = true
  xq_TooMany_TooMany : PySem.W.kitOne K (.ref C_TooMany) (.ref C_TooMany) = some (bo_law_told "TooMany" "TooMany")
  g_law_alike : mg "_law_alike" = some (.ref f_law_alike)
  F_law_alike : L2.Fun K "_law_alike" "_law_alike" s_law_alike f_law_alike fd_law_alike
  k_law_alike : PySem.W.keepIn K (.ref f_law_alike) = true
  b_law_alike : Binds K fd_law_alike ["found", "due"] []
  g_law_has_band : mg "_law_has_band" = some (.ref f_law_has_band)
  F_law_has_band : L2.Fun K "_law_has_band" "_law_has_band" s_law_has_band f_law_has_band fd_law_has_band
  k_law_has_band : PySem.W.keepIn K (.ref f_law_has_band) = true
  b_law_has_band : Binds K fd_law_has_band ["pattern"] []
  g_law_taken : mg "_law_taken" = some (.ref f_law_taken)
  F_law_taken : L2.Fun K "_law_taken" "_law_taken" s_law_taken f_law_taken fd_law_taken
  k_law_taken : PySem.W.keepIn K (.ref f_law_taken) = true
  b_law_taken : Binds K fd_law_taken ["row", "many"] []
  g_law_pattern : mg "_law_pattern" = some (.ref f_law_pattern)
  F_law_pattern : L2.Fun K "_law_pattern" "_law_pattern" s_law_pattern f_law_pattern fd_law_pattern
  k_law_pattern : PySem.W.keepIn K (.ref f_law_pattern) = true
  b_law_pattern : Binds K fd_law_pattern ["row", "least", "most"] []
  g_law_next : mg "_law_next" = some (.ref f_law_next)
  F_law_next : L2.Fun K "_law_next" "_law_next" s_law_next f_law_next fd_law_next
  k_law_next : PySem.W.keepIn K (.ref f_law_next) = true
  b_law_next : Binds K fd_law_next ["pattern", "top", "bottom"] []
  g_law_points : mg "_law_points" = some (.ref f_law_points)
  F_law_points : L2.Fun K "_law_points" "_law_points" s_law_points f_law_points fd_law_points
  k_law_points : PySem.W.keepIn K (.ref f_law_points) = true
  b_law_points : Binds K fd_law_points ["pattern", "period"] []
  g_law_told : mg "_law_told" = some (.ref f_law_told)
  F_law_told : L2.Fun K "_law_told" "_law_told" s_law_told f_law_told fd_law_told
  k_law_told : PySem.W.keepIn K (.ref f_law_told) = true
  b_law_told : Binds K fd_law_told ["work"] []
  g_covered : mg "covered" = some (.ref f_covered)
  F_covered : L2.Fun K "covered" "covered" s_covered f_covered fd_covered
  k_covered : PySem.W.keepIn K (.ref f_covered) = true
  b_covered : Binds K fd_covered ["pattern", "piece"] []
  g_has_band : mg "has_band" = some (.ref f_has_band)
  F_has_band : L2.Fun K "has_band" "has_band" s_has_band f_has_band fd_has_band
  k_has_band : PySem.W.keepIn K (.ref f_has_band) = true
  b_has_band : Binds K fd_has_band ["pattern"] []
  g_is_in : mg "is_in" = some (.ref f_is_in)
  F_is_in : L2.Fun K "is_in" "is_in" s_is_in f_is_in fd_is_in
  k_is_in : PySem.W.keepIn K (.ref f_is_in) = true
  b_is_in : Binds K fd_is_in ["value", "least", "most"] []
  g_need_number : mg "need_number" = some (.ref f_need_number)
  F_need_number : L2.Fun K "need_number" "need_number" s_need_number f_need_number fd_need_number
  k_need_number : PySem.W.keepIn K (.ref f_need_number) = true
  b_need_number : Binds K fd_need_number ["number", "least", "most"] []
  g_need_pattern : mg "need_pattern" = some (.ref f_need_pattern)
  F_need_pattern : L2.Fun K "need_pattern" "need_pattern" s_need_pattern f_need_pattern fd_need_pattern
  k_need_pattern : PySem.W.keepIn K (.ref f_need_pattern) = true
  b_need_pattern : Binds K fd_need_pattern ["pattern"] []
  g_repeats : mg "repeats" = some (.ref f_repeats)
  F_repeats : L2.Fun K "repeats" "repeats" s_repeats f_repeats fd_repeats
  k_repeats : PySem.W.keepIn K (.ref f_repeats) = true
  b_repeats : Binds K fd_repeats ["walk"] []
  g_piece_beside : mg "piece_beside" = some (.ref f_piece_beside)
  F_piece_beside : L2.Fun K "piece_beside" "piece_beside" s_piece_beside f_piece_beside fd_piece_beside
  k_piece_beside : PySem.W.keepIn K (.ref f_piece_beside) = true
  b_piece_beside : Binds K fd_piece_beside ["beside"] []
  g_step_beside : mg "step_beside" = some (.ref f_step_beside)
  F_step_beside : L2.Fun K "step_beside" "step_beside" s_step_beside f_step_beside fd_step_beside
  k_step_beside : PySem.W.keepIn K (.ref f_step_beside) = true
  b_step_beside : Binds K fd_step_beside ["pattern", "beside"] []
  g_walk_beside : mg "walk_beside" = some (.ref f_walk_beside)
  F_walk_beside : L2.Fun K "walk_beside" "walk_beside" s_walk_beside f_walk_beside fd_walk_beside
  k_walk_beside : PySem.W.keepIn K (.ref f_walk_beside) = true
  b_walk_beside : Binds K fd_walk_beside ["pattern", "beside"] []
  g_beside_walks : mg "beside_walks" = some (.ref f_beside_walks)
  F_beside_walks : L2.Fun K "beside_walks" "beside_walks" s_beside_walks f_beside_walks fd_beside_walks
  k_beside_walks : PySem.W.keepIn K (.ref f_beside_walks) = true
  b_beside_walks : Binds K fd_beside_walks ["pattern", "period"] []
  g_closed_walks : mg "closed_walks" = some (.ref f_closed_walks)
  F_closed_walks : L2.Fun K "closed_walks" "closed_walks" s_closed_walks f_closed_walks fd_closed_walks
  k_closed_walks : PySem.W.keepIn K (.ref f_closed_walks) = true
  b_closed_walks : Binds K fd_closed_walks ["pattern", "length"] []
  g_simple_walks : mg "simple_walks" = some (.ref f_simple_walks)
  F_simple_walks : L2.Fun K "simple_walks" "simple_walks" s_simple_walks f_simple_walks fd_simple_walks
  k_simple_walks : PySem.W.keepIn K (.ref f_simple_walks) = true
  b_simple_walks : Binds K fd_simple_walks ["pattern", "period"] []
  g_points_of : mg "points_of" = some (.ref f_points_of)
  F_points_of : L2.Fun K "points_of" "points_of" s_points_of f_points_of fd_points_of
  k_points_of : PySem.W.keepIn K (.ref f_points_of) = true
  b_points_of : Binds K fd_points_of ["pattern", "period"] []
  g_count_cycles : mg "count_cycles" = some (.ref f_count_cycles)
  F_count_cycles : L2.Fun K "count_cycles" "count_cycles" s_count_cycles f_count_cycles fd_count_cycles
  k_count_cycles : PySem.W.keepIn K (.ref f_count_cycles) = true
  b_count_cycles : Binds K fd_count_cycles ["pattern", "period"] []
  g_law : mg "law" = some (.ref f_law)
  F_law : L2.Fun K "law" "law" s_law f_law fd_law
  k_law : PySem.W.keepIn K (.ref f_law) = true
  b_law : Binds K fd_law ["script"] []
section
variable {P : Program} {w : World} {K : PySem.W.Frag} {mg : Str → Option Value} {base : Heap} {f_law_alike f_law_has_band f_law_taken f_law_pattern f_law_next f_law_points f_law_told f_covered f_has_band f_is_in f_need_number f_need_pattern f_repeats f_piece_beside f_step_beside f_walk_beside f_beside_walks f_closed_walks f_simple_walks f_points_of f_count_cycles f_law : Addr} {fd_law_alike fd_law_has_band fd_law_taken fd_law_pattern fd_law_next fd_law_points fd_law_told fd_covered fd_has_band fd_is_in fd_need_number fd_need_pattern fd_repeats fd_piece_beside fd_step_beside fd_walk_beside fd_beside_walks fd_closed_walks fd_simple_walks fd_points_of fd_count_cycles fd_law : FuncData} {u_MOST_PATTERN u_MOST_PERIOD : Value} {C_BadNumber C_BadPattern C_ShiftError C_TooMany I_TooMany : Addr} {J_TooMany : FuncData} {c_need_pattern P_need_pattern c_repeats P_repeats c_simple_walks P_simple_walks c_law P_law : Addr} {T : TabsT}
theorem ii_TooMany (Y : Tx K mg f_law_alike f_law_has_band f_law_taken f_law_pattern f_law_next f_law_points f_law_told f_covered f_has_band f_is_in f_need_number f_need_pattern f_repeats f_piece_beside f_step_beside f_walk_beside f_beside_walks f_closed_walks f_simple_walks f_points_of f_count_cycles f_law fd_law_alike fd_law_has_band fd_law_taken fd_law_pattern fd_law_next fd_law_points fd_law_told fd_covered fd_has_band fd_is_in fd_need_number fd_need_pattern fd_repeats fd_piece_beside fd_step_beside fd_walk_beside fd_beside_walks fd_closed_walks fd_simple_walks fd_points_of fd_count_cycles fd_law u_MOST_PATTERN u_MOST_PERIOD C_BadNumber C_BadPattern C_ShiftError C_TooMany I_TooMany J_TooMany c_need_pattern P_need_pattern c_repeats P_repeats c_simple_walks P_simple_walks c_law P_law base T) : FnOk P w K mg base CX0 1 I_TooMany J_TooMany ["self", "most"] (spI C_TooMany "most") := init_ok Y.xF_TooMany sc_iTooMany Y.xo_TooMany Y.xn_TooMany rfl (by decide) (by decide) (by decide) (by first | exact Or.inl rfl | exact Or.inr (Or.inl rfl) | exact Or.inr (Or.inr rfl)) (by first | exact Or.inl rfl | exact Or.inr (Or.inl rfl) | exact Or.inr (Or.inr rfl)) (fun _ _ => by first | rfl | (unfold swapsWith; rfl))
theorem ok_law_alike (Y : Tx K mg f_law_alike f_law_has_band f_law_taken f_law_pattern f_law_next f_law_points f_law_told f_covered f_has_band f_is_in f_need_number f_need_pattern f_repeats f_piece_beside f_step_beside f_walk_beside f_beside_walks f_closed_walks f_simple_walks f_points_of f_count_cycles f_law fd_law_alike fd_law_has_band fd_law_taken fd_law_pattern fd_law_next fd_law_points fd_law_told fd_covered fd_has_band fd_is_in fd_need_number fd_need_pattern fd_repeats fd_piece_beside fd_step_beside fd_walk_beside fd_beside_walks fd_closed_walks fd_simple_walks fd_points_of fd_count_cycles fd_law u_MOST_PATTERN u_MOST_PERIOD C_BadNumber C_BadPattern C_ShiftError C_TooMany I_TooMany J_TooMany c_need_pattern P_need_pattern c_repeats P_repeats c_simple_walks P_simple_walks c_law P_law base T) : ∀ n : Nat, FnOk P w K mg base CX0 (1 + n) f_law_alike fd_law_alike ["found", "due"] (spD K T (F_law_alike n))
  | 0 => fnok_none
  | n + 1 => by
    have ih := ok_law_alike Y n
    have nd := sc_law_alike.nd
    exact def_ok (lk := (fun i => [true, true].getD i false)) Y.F_law_alike sc_law_alike (fun i hi => lk_out hi rfl) fun cdv A outer s H E hr => (svs_cons (sv_if (bv_tru (ov_e (ev_isa2 Y.m_isinstance Y.m_tuple Y.m_list (ov_e (ev_var 1))))) (svs_cons (sv_if (BW.bv (bw_or (bv_not (bv_tru (ov_e (ev_isa2 Y.m_isinstance Y.m_tuple Y.m_list (ov_e (ev_var 0)))))) (bw_or1 (bv_cmp (c2_ne hr) (ov_e (ev_isa Y.m_isinstance Y.m_list (ov_e (ev_var 0)))) (ov_e (ev_isa Y.m_isinstance Y.m_list (ov_e (ev_var 1)))))))) (svs_one (sv_ret ev_bl)) svs_nil)
  (svs_cons (sv_if (bv_cmp (c2_ne hr) (ov_e (ev_b1 o1_len Y.m_len (ov_e (ev_var 0)))) (ov_e (ev_b1 o1_len Y.m_len (ov_e (ev_var 1))))) (svs_one (sv_ret ev_bl)) svs_nil)
  (svs_one (sv_ret (ev_cmp (c2_eq hr) (ov_e (ev_compIf (own := [("k", 2)]) rfl nd (blkOk_by (own := [("k", 2)]) (N := N_law_alike) (sc := defScope s_law_alike) (by first | decide +kernel | kernel_rfl)) (iv_rng1 Y.m_range (ev_b1 o1_len Y.m_len (ov_e (ev_var 1)))) (fun _ _ _ _ _ => (gv_name 2 nd)) (fun _ _ _ _ _ => (bv_not (bv_tru (ov_e (ev_call ih (hr.mono (by first | exact Nat.le_refl _ | (show _ ≤ _ + _; omega))) Y.g_law_alike Y.k_law_alike Y.b_law_alike (av_cons (ev_sub (ov_e (ev_var 0)) (ov_e (ev_var 2))) (av_cons (ev_sub (ov_e (ev_var 1)) (ov_e (ev_var 2))) av_nil))))))) (fun _ _ _ _ _ => (ev_var 2)))) (ov_e (ev_lst av_nil))))))) svs_nil)
  (svs_cons (sv_if (BW.bv (bw_or (bv_cmp c2_is (ov_e (ev_var 1)) (ov_e ev_non)) (bw_or1 (bv_tru (ov_e (ev_isa Y.m_isinstance Y.m_str (ov_e (ev_var 1)))))))) (svs_one (sv_ret (ev_and (ev_cmp (c2_eq hr) (ov_e (ev_var 0)) (ov_e (ev_var 1))) (ev_one (ev_cmp (c2_eq hr) (ov_e (ev_isa Y.m_isinstance Y.m_str (ov_e (ev_var 0)))) (ov_e (ev_isa Y.m_isinstance Y.m_str (ov_e (ev_var 1))))))))) svs_nil)
  (svs_one (sv_ret (ev_and (ev_isa Y.m_isinstance Y.m_int (ov_e (ev_var 0))) (ev_and (ev_cmp (c2_eq hr) (ov_e (ev_isa Y.m_isinstance Y.m_bool (ov_e (ev_var 0)))) (ov_e (ev_isa Y.m_isinstance Y.m_bool (ov_e (ev_var 1))))) (ev_one (ev_cmp (c2_eq hr) (ov_e (ev_var 0)) (ov_e (ev_var 1))))))))))
theorem hc_law_alike (Y : Tx K mg f_law_alike f_law_has_band f_law_taken f_law_pattern f_law_next f_law_points f_law_told f_covered f_has_band f_is_in f_need_number f_need_pattern f_repeats f_piece_beside f_step_beside f_walk_beside f_beside_walks f_closed_walks f_simple_walks f_points_of f_count_cycles f_law fd_law_alike fd_law_has_band fd_law_taken fd_law_pattern fd_law_next fd_law_points fd_law_told fd_covered fd_has_band fd_is_in fd_need_number fd_need_pattern fd_repeats fd_piece_beside fd_step_beside fd_walk_beside fd_beside_walks fd_closed_walks fd_simple_walks fd_points_of fd_count_cycles fd_law u_MOST_PATTERN u_MOST_PERIOD C_BadNumber C_BadPattern C_ShiftError C_TooMany I_TooMany J_TooMany c_need_pattern P_need_pattern c_repeats P_repeats c_simple_walks P_simple_walks c_law P_law base T) : FnOk P w K mg base CX0 13 f_law_alike fd_law_alike ["found", "due"] (spD K T (F_law_alike 12)) := ok_law_alike Y 12
theorem hc_law_has_band (Y : Tx K mg f_law_alike f_law_has_band f_law_taken f_law_pattern f_law_next f_law_points f_law_told f_covered f_has_band f_is_in f_need_number f_need_pattern f_repeats f_piece_beside f_step_beside f_walk_beside f_beside_walks f_closed_walks f_simple_walks f_points_of f_count_cycles f_law fd_law_alike fd_law_has_band fd_law_taken fd_law_pattern fd_law_next fd_law_points fd_law_told fd_covered fd_has_band fd_is_in fd_need_number fd_need_pattern fd_repeats fd_piece_beside fd_step_beside fd_walk_beside fd_beside_walks fd_closed_walks fd_simple_walks fd_points_of fd_count_cycles fd_law u_MOST_PATTERN u_MOST_PERIOD C_BadNumber C_BadPattern C_ShiftError C_TooMany I_TooMany J_TooMany c_need_pattern P_need_pattern c_repeats P_repeats c_simple_walks P_simple_walks c_law P_law base T) : FnOk P w K mg base CX0 1 f_law_has_band fd_law_has_band ["pattern"] (spD K T F_law_has_band) := by
  have nd := sc_law_has_band.nd
  exact def_ok (lk := (fun i => [true].getD i false)) Y.F_law_has_band sc_law_has_band (fun i hi => lk_out hi rfl) fun cdv A outer s H E hr => (svs_cons (sv_for PassesOwn.never rfl (iv_rng1 Y.m_range (ev_bin o2_sub (ov_e (ev_b1 o1_len Y.m_len (ov_e (ev_var 0)))) (ov_e ev_int))) (gv_name 1 nd) (svs_cons (sv_set 2 nd (ev_var 1))
  (svs_one (sv_for PassesOwn.never rfl (iv_rng1 Y.m_range (ev_b1 o1_len Y.m_len (ov_e (ev_var 0)))) (gv_name 3 nd) (svs_cons (sv_if (bv_cmp (c2_ne hr) (ov_e (ev_b1 o1_abs Y.m_abs (ov_e (ev_bin o2_sub (ov_e (ev_sub (ov_e (ev_var 0)) (ov_e (ev_bin o2_add (ov_e (ev_var 2)) (ov_e ev_int))))) (ov_e (ev_sub (ov_e (ev_var 0)) (ov_e (ev_var 2)))))))) (ov_e ev_int)) (svs_one sv_brk) svs_nil)
  (svs_cons (sv_setF 2 nd (ev_b2 (o2_min rfl) Y.m_min (ov_e (ev_sub (ov_e (ev_var 0)) (ov_e (ev_var 2)))) (ov_e (ev_sub (ov_e (ev_var 0)) (ov_e (ev_bin o2_add (ov_e (ev_var 2)) (ov_e ev_int)))))))
  (svs_one (sv_if (bv_cmp (c2_eq hr) (ov_e (ev_var 2)) (ov_e (ev_var 1))) (svs_one (sv_ret ev_bl)) svs_nil))))))))
  (svs_one (sv_ret ev_bl)))
theorem hc_law_taken (Y : Tx K mg f_law_alike f_law_has_band f_law_taken f_law_pattern f_law_next f_law_points f_law_told f_covered f_has_band f_is_in f_need_number f_need_pattern f_repeats f_piece_beside f_step_beside f_walk_beside f_beside_walks f_closed_walks f_simple_walks f_points_of f_count_cycles f_law fd_law_alike fd_law_has_band fd_law_taken fd_law_pattern fd_law_next fd_law_points fd_law_told fd_covered fd_has_band fd_is_in fd_need_number fd_need_pattern fd_repeats fd_piece_beside fd_step_beside fd_walk_beside fd_beside_walks fd_closed_walks fd_simple_walks fd_points_of fd_count_cycles fd_law u_MOST_PATTERN u_MOST_PERIOD C_BadNumber C_BadPattern C_ShiftError C_TooMany I_TooMany J_TooMany c_need_pattern P_need_pattern c_repeats P_repeats c_simple_walks P_simple_walks c_law P_law base T) : FnOk P w K mg base CX0 1 f_law_taken fd_law_taken ["row", "many"] (spD K T F_law_taken) := by
  have nd := sc_law_taken.nd
  exact def_ok (lk := (fun i => [true, true].getD i false)) Y.F_law_taken sc_law_taken (fun i hi => lk_out hi rfl) fun cdv A outer s H E hr => (svs_cons (sv_if (bv_cmp (c2_gt hr) (ov_e (ev_sub (ov_s 0) (ov_e ev_int))) (ov_e ev_int)) (svs_cons (sv_set 2 nd (ev_bin o2_mod (ov_e (ev_t1 o1_int Y.m_int (ov_e (ev_sub (ov_s 0) (ov_e ev_int))))) (ov_e (ev_var 1))))
  (svs_cons (sv_sub 0 (ev_bin o2_div (ov_e (ev_sub (ov_s 0) (ov_e ev_int))) (ov_e (ev_var 1))) ev_int)
  (svs_one (sv_ret (ev_var 2))))) svs_nil)
  (svs_cons (sv_sub 0 (ev_bin o2_add (ov_e (ev_sub (ov_s 0) (ov_e ev_int))) (ov_e ev_int)) ev_int)
  (svs_cons (sv_if (bv_cmp (c2_gt hr) (ov_e (ev_sub (ov_s 0) (ov_e ev_int))) (ov_e (ev_b1 o1_len Y.m_len (ov_e (ev_sub (ov_s 0) (ov_e ev_int)))))) (svs_cons (sv_sub 0 (ev_bin o2_mod (ov_e (ev_t1 o1_int Y.m_int (ov_e (ev_bin o2_add (ov_e (ev_bin o2_mul (ov_e (ev_sub (ov_s 0) (ov_e ev_int))) (ov_e ev_int))) (ov_e ev_int))))) (ov_e ev_int)) ev_int)
  (svs_one (sv_ret (ev_bin o2_mod (ov_e (ev_t1 o1_int Y.m_int (ov_e (ev_bin o2_div (ov_e (ev_sub (ov_s 0) (ov_e ev_int))) (ov_e ev_int))))) (ov_e (ev_var 1)))))) svs_nil)
  (svs_cons (sv_set 3 nd (ev_sub (ov_e (ev_sub (ov_s 0) (ov_e ev_int))) (ov_e (ev_bin o2_sub (ov_e (ev_sub (ov_s 0) (ov_e ev_int))) (ov_e ev_int)))))
  (svs_cons (sv_sub 0 (ev_bin o2_mod (ov_e (ev_t1 o1_int Y.m_int (ov_e (ev_bin o2_add (ov_e (ev_bin o2_add (ov_e (ev_bin o2_mul (ov_e (ev_sub (ov_s 0) (ov_e ev_int))) (ov_e ev_int))) (ov_e (ev_var 3)))) (ov_e ev_int))))) (ov_e ev_int)) ev_int)
  (svs_cons (sv_if (bv_cmp (c2_ge hr) (ov_e (ev_var 3)) (ov_e (ev_bin o2_pow (ov_e ev_int) (ov_e ev_int)))) (svs_one (sv_sub 0 (ev_bin o2_div (ov_e (ev_var 3)) (ov_e (ev_var 1))) ev_int)) svs_nil)
  (svs_one (sv_ret (ev_bin o2_mod (ov_e (ev_t1 o1_int Y.m_int (ov_e (ev_var 3)))) (ov_e (ev_var 1)))))))))))
theorem hc_law_pattern (Y : Tx K mg f_law_alike f_law_has_band f_law_taken f_law_pattern f_law_next f_law_points f_law_told f_covered f_has_band f_is_in f_need_number f_need_pattern f_repeats f_piece_beside f_step_beside f_walk_beside f_beside_walks f_closed_walks f_simple_walks f_points_of f_count_cycles f_law fd_law_alike fd_law_has_band fd_law_taken fd_law_pattern fd_law_next fd_law_points fd_law_told fd_covered fd_has_band fd_is_in fd_need_number fd_need_pattern fd_repeats fd_piece_beside fd_step_beside fd_walk_beside fd_beside_walks fd_closed_walks fd_simple_walks fd_points_of fd_count_cycles fd_law u_MOST_PATTERN u_MOST_PERIOD C_BadNumber C_BadPattern C_ShiftError C_TooMany I_TooMany J_TooMany c_need_pattern P_need_pattern c_repeats P_repeats c_simple_walks P_simple_walks c_law P_law base T) : FnOk P w K mg base CX0 2 f_law_pattern fd_law_pattern ["row", "least", "most"] (spD K T F_law_pattern) := by
  have nd := sc_law_pattern.nd
  exact def_ok (lk := (fun i => [true, true, true].getD i false)) Y.F_law_pattern sc_law_pattern (fun i hi => lk_out hi rfl) fun cdv A outer s H E hr => (svs_cons (sv_setF 3 nd (ev_bin o2_add (ov_e (ev_var 1)) (ov_e (ev_call (hc_law_taken Y) (hr.mono (by decide)) Y.g_law_taken Y.k_law_taken Y.b_law_taken (av_own 0 (av_cons (ev_fr (ev_bin o2_add (ov_e (ev_bin o2_sub (ov_e (ev_var 2)) (ov_e (ev_var 1)))) (ov_e ev_int))) av_nil))))))
  (svs_cons (sv_par3 4 5 6 rfl nd (ev_fr (ev_comp (own := [("k", 9)]) rfl nd (blkOk_by (own := [("k", 9)]) (N := N_law_pattern) (sc := defScope s_law_pattern) (by first | decide +kernel | kernel_rfl)) (iv_rng2 Y.m_range ev_int (ev_var 3)) (fun _ _ _ _ _ => (gv_name 9 nd)) (fun _ _ _ _ _ => (ev_var 9)))) ev_int (ev_comp (own := [("k", 9)]) rfl nd (blkOk_by (own := [("k", 9)]) (N := N_law_pattern) (sc := defScope s_law_pattern) (by first | decide +kernel | kernel_rfl)) (iv_rng1 Y.m_range (ev_var 3)) (fun _ _ _ _ _ => (gv_name 9 nd)) (fun _ _ _ _ _ => ev_int)))
  (svs_cons (sv_for PassesOwn.never rfl (iv_rng1 Y.m_range (ev_bin o2_sub (ov_e (ev_var 3)) (ov_e ev_int))) (gv_name 7 nd) (svs_cons (sv_set 8 nd (ev_sub (ov_e (ev_var 4)) (ov_e (ev_call (hc_law_taken Y) (hr.mono (by decide)) Y.g_law_taken Y.k_law_taken Y.b_law_taken (av_own 0 (av_cons (ev_fr (ev_b1 o1_len Y.m_len (ov_e (ev_var 4)))) av_nil))))))
  (svs_cons (sv_setCIf (own := [("k", 9)]) 4 true rfl nd (blkOk_by (own := [("k", 9)]) (N := N_law_pattern) (sc := defScope s_law_pattern) (by first | decide +kernel | kernel_rfl)) (iv_seq (ev_var 4)) (fun _ _ _ _ _ => (gv_name 9 nd)) (fun _ _ _ _ _ => (bv_cmp (c2_ne hr) (ov_e (ev_var 9)) (ov_e (ev_var 8)))) (fun _ _ _ _ _ => (ev_var 9)))
  (svs_one (sv_parN rfl (av_cons (ev_var 8) (av_cons (ev_var 8) av_nil)) (gos_cons (go_sub 6 (ev_var 5)) (gos_cons (go_name 5 nd) gos_nil)) (ht := fun _ h => pg_tup rfl h))))))
  (svs_cons (sv_sub 6 ev_int (ev_var 5))
  (svs_one (sv_ret (ev_t1 o1_tuple Y.m_tuple (ov_s 6))))))))
theorem hc_law_next (Y : Tx K mg f_law_alike f_law_has_band f_law_taken f_law_pattern f_law_next f_law_points f_law_told f_covered f_has_band f_is_in f_need_number f_need_pattern f_repeats f_piece_beside f_step_beside f_walk_beside f_beside_walks f_closed_walks f_simple_walks f_points_of f_count_cycles f_law fd_law_alike fd_law_has_band fd_law_taken fd_law_pattern fd_law_next fd_law_points fd_law_told fd_covered fd_has_band fd_is_in fd_need_number fd_need_pattern fd_repeats fd_piece_beside fd_step_beside fd_walk_beside fd_beside_walks fd_closed_walks fd_simple_walks fd_points_of fd_count_cycles fd_law u_MOST_PATTERN u_MOST_PERIOD C_BadNumber C_BadPattern C_ShiftError C_TooMany I_TooMany J_TooMany c_need_pattern P_need_pattern c_repeats P_repeats c_simple_walks P_simple_walks c_law P_law base T) : FnOk P w K mg base CX0 1 f_law_next fd_law_next ["pattern", "top", "bottom"] (spD K T F_law_next) := by
  have nd := sc_law_next.nd
  exact def_ok (lk := (fun i => [true, true, true].getD i false)) Y.F_law_next sc_law_next (fun i hi => lk_out hi rfl) fun cdv A outer s H E hr => (svs_cons (sv_setF 3 nd (ev_b2 (o2_min rfl) Y.m_min (ov_e (ev_bin o2_div (ov_e (ev_var 1)) (ov_e (ev_var 2)))) (ov_e (ev_bin o2_sub (ov_e (ev_b1 o1_len Y.m_len (ov_e (ev_var 0)))) (ov_e ev_int)))))
  (svs_one (sv_ret (ev_bin o2_add (ov_e (ev_bin o2_mul (ov_e (ev_sub (ov_e (ev_var 0)) (ov_e (ev_var 3)))) (ov_e (ev_var 2)))) (ov_e (ev_bin o2_mul (ov_e (ev_bin o2_sub (ov_e (ev_sub (ov_e (ev_var 0)) (ov_e (ev_bin o2_add (ov_e (ev_var 3)) (ov_e ev_int))))) (ov_e (ev_sub (ov_e (ev_var 0)) (ov_e (ev_var 3)))))) (ov_e (ev_bin o2_sub (ov_e (ev_var 1)) (ov_e (ev_bin o2_mul (ov_e (ev_var 3)) (ov_e (ev_var 2))))))))))))
theorem hc_law_points (Y : Tx K mg f_law_alike f_law_has_band f_law_taken f_law_pattern f_law_next f_law_points f_law_told f_covered f_has_band f_is_in f_need_number f_need_pattern f_repeats f_piece_beside f_step_beside f_walk_beside f_beside_walks f_closed_walks f_simple_walks f_points_of f_count_cycles f_law fd_law_alike fd_law_has_band fd_law_taken fd_law_pattern fd_law_next fd_law_points fd_law_told fd_covered fd_has_band fd_is_in fd_need_number fd_need_pattern fd_repeats fd_piece_beside fd_step_beside fd_walk_beside fd_beside_walks fd_closed_walks fd_simple_walks fd_points_of fd_count_cycles fd_law u_MOST_PATTERN u_MOST_PERIOD C_BadNumber C_BadPattern C_ShiftError C_TooMany I_TooMany J_TooMany c_need_pattern P_need_pattern c_repeats P_repeats c_simple_walks P_simple_walks c_law P_law base T) : FnOk P w K mg base CX0 2 f_law_points fd_law_points ["pattern", "period"] (spD K T F_law_points) := by
  have nd := sc_law_points.nd
  exact def_ok (lk := (fun i => [true, true].getD i false)) Y.F_law_points sc_law_points (fun i hi => lk_out hi rfl) fun cdv A outer s H E hr => (svs_cons (sv_par2 2 3 rfl nd (ev_fr (ev_comp (own := [("k", 18)]) rfl nd (blkOk_by (own := [("k", 18)]) (N := N_law_points) (sc := defScope s_law_points) (by first | decide +kernel | kernel_rfl)) (iv_rng1 Y.m_range (ev_bin o2_sub (ov_e (ev_b1 o1_len Y.m_len (ov_e (ev_var 0)))) (ov_e ev_int))) (fun _ _ _ _ _ => (gv_name 18 nd)) (fun _ _ _ _ _ => (ev_tup (av_cons (ev_tup av_nil) (av_cons (ev_var 18) (av_cons ev_int (av_cons ev_int av_nil)))))))) (ev_lst av_nil))
  (svs_cons (sv_for PassesOwn.never rfl (iv_rng1 Y.m_range (ev_var 1)) (gv_name 4 nd) (svs_cons (sv_setF 5 nd (ev_lst av_nil))
  (svs_cons (sv_for PassesOwn.never rfl (iv_seq (ev_var 2)) (gv_tup rfl (gvs_cons (gv_name 6 nd) (gvs_cons (gv_name 7 nd) (gvs_cons (gv_name 8 nd) (gvs_cons (gv_name 9 nd) gvs_nil)))) rfl (fun _ h => pg_tup rfl h)) (svs_cons (sv_par2 10 11 rfl nd (ev_fr (ev_b1 (o1_minQ rfl) Y.m_min (ov_e (ev_cut (ov_e (ev_var 0)) (hv_at (ev_var 7)) (hv_at (ev_bin o2_add (ov_e (ev_var 7)) (ov_e ev_int))))))) (ev_fr (ev_b1 (o1_maxQ rfl) Y.m_max (ov_e (ev_cut (ov_e (ev_var 0)) (hv_at (ev_var 7)) (hv_at (ev_bin o2_add (ov_e (ev_var 7)) (ov_e ev_int))))))))
  (svs_cons (sv_set 12 nd (ev_bin o2_sub (ov_e (ev_sub (ov_e (ev_var 0)) (ov_e (ev_bin o2_add (ov_e (ev_var 7)) (ov_e ev_int))))) (ov_e (ev_sub (ov_e (ev_var 0)) (ov_e (ev_var 7))))))
  (svs_cons (sv_set 13 nd (ev_tup (av_cons (ev_bin o2_add (ov_e (ev_var 6)) (ov_e (ev_tup (av_cons (ev_var 7) av_nil)))) (av_cons (ev_bin o2_mul (ov_e (ev_var 12)) (ov_e (ev_var 8))) (av_cons (ev_bin o2_sub (ov_e (ev_bin o2_add (ov_e (ev_bin o2_mul (ov_e (ev_var 12)) (ov_e (ev_var 9)))) (ov_e (ev_sub (ov_e (ev_var 0)) (ov_e (ev_var 7)))))) (ov_e (ev_bin o2_mul (ov_e (ev_var 12)) (ov_e (ev_var 7))))) av_nil)))))
  (svs_one (sv_setF 5 nd (ev_bin o2_add (ov_e (ev_var 5)) (ov_e (ev_comp (own := [("later", 19)]) rfl nd (blkOk_by (own := [("later", 19)]) (N := N_law_points) (sc := defScope s_law_points) (by first | decide +kernel | kernel_rfl)) (iv_rng2 Y.m_range (ev_var 10) (ev_var 11)) (fun _ _ _ _ _ => (gv_name 19 nd)) (fun _ _ _ _ _ => (ev_tup (av_cons (ev_sub (ov_e (ev_var 13)) (ov_e ev_int)) (av_cons (ev_var 19) (av_cons (ev_sub (ov_e (ev_var 13)) (ov_e ev_int)) (av_cons (ev_sub (ov_e (ev_var 13)) (ov_e ev_int)) av_nil)))))))))))))))
  (svs_one (sv_set 2 nd (ev_var 5))))))
  (svs_cons (sv_for PassesOwn.never rfl (iv_seq (ev_var 2)) (gv_tup rfl (gvs_cons (gv_name 6 nd) (gvs_cons (gv_name 7 nd) (gvs_cons (gv_name 8 nd) (gvs_cons (gv_name 9 nd) gvs_nil)))) rfl (fun _ h => pg_tup rfl h)) (svs_one (sv_if (BW.bv (bw_and (bv_cmp (c2_eq hr) (ov_e (ev_var 7)) (ov_e (ev_sub (ov_e (ev_var 6)) (ov_e ev_int)))) (bw_and1 (bv_cmp (c2_ne hr) (ov_e (ev_var 8)) (ov_e ev_int))))) (svs_cons (sv_tg (ev_if (bv_cmp (c2_lt hr) (ov_e (ev_var 8)) (ov_e ev_int)) (ev_tup (av_cons (ev_var 9) (av_cons (ev_bin o2_sub (ov_e ev_int) (ov_e (ev_var 8))) av_nil))) (ev_tup (av_cons (ev_bin o2_sub (ov_e ev_int) (ov_e (ev_var 9))) (av_cons (ev_bin o2_sub (ov_e (ev_var 8)) (ov_e ev_int)) av_nil)))) (gv_tup rfl (gvs_cons (gv_name 14 nd) (gvs_cons (gv_name 15 nd) gvs_nil)) rfl (fun _ h => pg_tup rfl h)))
  (svs_cons (sv_par2 16 17 rfl nd (ev_fr (ev_call (hc_law_next Y) (hr.mono (by decide)) Y.g_law_next Y.k_law_next Y.b_law_next (av_cons (ev_var 0) (av_cons (ev_var 14) (av_cons (ev_var 15) av_nil))))) ev_int)
  (svs_cons (sv_for PassesOwn.never rfl (iv_rng1 Y.m_range (ev_var 1)) (gv_name 4 nd) (svs_cons (sv_if (bv_cmp (c2_eq hr) (ov_e (ev_var 16)) (ov_e (ev_var 14))) (svs_one sv_brk) svs_nil)
  (svs_one (sv_par2 16 17 rfl nd (ev_fr (ev_call (hc_law_next Y) (hr.mono (by decide)) Y.g_law_next Y.k_law_next Y.b_law_next (av_cons (ev_var 0) (av_cons (ev_var 16) (av_cons (ev_var 15) av_nil))))) (ev_fr (ev_bin o2_add (ov_e (ev_var 17)) (ov_e ev_int)))))))
  (svs_one (sv_if (bv_cmp (c2_eq hr) (ov_e (ev_var 17)) (ov_e (ev_var 1))) (svs_one (sv_app 3 (ev_tup (av_cons (ev_var 14) (av_cons (ev_var 15) av_nil))))) svs_nil))))) svs_nil)))
  (svs_one (sv_retS 3)))))
def su_law_told : List Stmt := match defBody s_law_told with
  | .Try _ (.ExceptHandler _ _ b _ :: _) _ _ _ :: _ => b
  | _ => []
theorem hG_law_told {X : Cx} {T0 : TabsT} (Y : Tx X.K X.mg f_law_alike f_law_has_band f_law_taken f_law_pattern f_law_next f_law_points f_law_told f_covered f_has_band f_is_in f_need_number f_need_pattern f_repeats f_piece_beside f_step_beside f_walk_beside f_beside_walks f_closed_walks f_simple_walks f_points_of f_count_cycles f_law fd_law_alike fd_law_has_band fd_law_taken fd_law_pattern fd_law_next fd_law_points fd_law_told fd_covered fd_has_band fd_is_in fd_need_number fd_need_pattern fd_repeats fd_piece_beside fd_step_beside fd_walk_beside fd_beside_walks fd_closed_walks fd_simple_walks fd_points_of fd_count_cycles fd_law u_MOST_PATTERN u_MOST_PERIOD C_BadNumber C_BadPattern C_ShiftError C_TooMany I_TooMany J_TooMany c_need_pattern P_need_pattern c_repeats P_repeats c_simple_walks P_simple_walks c_law P_law X.base T) (q : Str) (cdv : Value) : LamX.GivesTo X N_law_told "_law_told" (defScope s_law_told) f_law_told cdv (defBody s_law_told) "work" q (fun tl H Q => tl (EchA X.K X.mg T0 (toldZ X N_law_told "_law_told" (defScope s_law_told) f_law_told cdv) C_ShiftError 1 su_law_told Q) H (if true = true then Q else fun _ H' => Q .non H')) :=
  told_ret sc_law_told.nd rfl rfl rfl Y.xc_ShiftError (by decide) (fun _ => rfl)
theorem sd_law_told {X : Cx} {T0 : TabsT} (Y : Tx X.K X.mg f_law_alike f_law_has_band f_law_taken f_law_pattern f_law_next f_law_points f_law_told f_covered f_has_band f_is_in f_need_number f_need_pattern f_repeats f_piece_beside f_step_beside f_walk_beside f_beside_walks f_closed_walks f_simple_walks f_points_of f_count_cycles f_law fd_law_alike fd_law_has_band fd_law_taken fd_law_pattern fd_law_next fd_law_points fd_law_told fd_covered fd_has_band fd_is_in fd_need_number fd_need_pattern fd_repeats fd_piece_beside fd_step_beside fd_walk_beside fd_beside_walks fd_closed_walks fd_simple_walks fd_points_of fd_count_cycles fd_law u_MOST_PATTERN u_MOST_PERIOD C_BadNumber C_BadPattern C_ShiftError C_TooMany I_TooMany J_TooMany c_need_pattern P_need_pattern c_repeats P_repeats c_simple_walks P_simple_walks c_law P_law X.base T) {cdv : Value} {s : Shared} {H : Hp} {a : Addr} {oe : Obj} {pn : List (Addr × Obj)} {x : Xn} {D : Addr} {d : Option Addr} (hu : (((toldZ X N_law_told "_law_told" (defScope s_law_told) f_law_told cdv s H).suite a ((a, oe) :: pn)).A).units + 66 < cLine) (bo : Str → Bool) (C : CExc X.K a oe T0 x D d) (hk_TooMany : PySem.W.kitOne X.K (.ref D) (.ref C_TooMany) = some (bo "TooMany")) : SVs ((toldZ X N_law_told "_law_told" (defScope s_law_told) f_law_told cdv s H).suite a ((a, oe) :: pn)) T0 (fun _ => false) su_law_told (S_law_told bo x.fld a) := by
  have nd := sc_law_told.nd
  exact (svs_one (sv_ret (ev_if (BW.bv (bw_and (bv_tru (ov_e (ev_isX 1 C hk_TooMany Y.m_isinstance Y.xc_TooMany))) (bw_and1 (bv_cmp (c2_eqU hu) (ov_e (ev_fldX 1 C)) (ov_e ev_int))))) ev_str ev_str)))
theorem par_law_told_BadNumber (a : Addr) : dropE (S_law_told (bo_law_told "BadNumber") none a (ini_law_told a)) = dropE (S_law_told (bo_law_told "BadNumber") none 0 (ini_law_told 0)) := by
  unfold S_law_told ini_law_told
  simp [eIsE, eFldE, dropE]
  first
  | rfl
  | (rw [show bo_law_told "BadNumber" "BadNumber" = true by decide +kernel]
     by_cases h : SeqAt.shaped z = true ∧ SeqAt.shaped (PyData.int 1) = true
     · simp [h]
       cases PyData.eqv z (.int 1) <;> simp
     · simp [h])
  | kernel_rfl
theorem par_law_told_BadPattern (a : Addr) : dropE (S_law_told (bo_law_told "BadPattern") none a (ini_law_told a)) = dropE (S_law_told (bo_law_told "BadPattern") none 0 (ini_law_told 0)) := by
  unfold S_law_told ini_law_told
  simp [eIsE, eFldE, dropE]
  first
  | rfl
  | (rw [show bo_law_told "BadPattern" "BadPattern" = true by decide +kernel]
     by_cases h : SeqAt.shaped z = true ∧ SeqAt.shaped (PyData.int 1) = true
     · simp [h]
       cases PyData.eqv z (.int 1) <;> simp
     · simp [h])
  | kernel_rfl
theorem par_law_told_TooMany (a : Addr) (z : D) : dropE (S_law_told (bo_law_told "TooMany") (some ("most", z)) a (ini_law_told a)) = dropE (S_law_told (bo_law_told "TooMany") (some ("most", z)) 0 (ini_law_told 0)) := by
  unfold S_law_told ini_law_told
  simp [eIsE, eFldE, dropE]
  first
  | rfl
  | (rw [show bo_law_told "TooMany" "TooMany" = true by decide +kernel]
     by_cases h : SeqAt.shaped z = true ∧ SeqAt.shaped (PyData.int 1) = true
     · simp [h]
       cases PyData.eqv z (.int 1) <;> simp
     · simp [h])
  | kernel_rfl
theorem tl_law_told {X : Cx} {T0 : TabsT} (Y : Tx X.K X.mg f_law_alike f_law_has_band f_law_taken f_law_pattern f_law_next f_law_points f_law_told f_covered f_has_band f_is_in f_need_number f_need_pattern f_repeats f_piece_beside f_step_beside f_walk_beside f_beside_walks f_closed_walks f_simple_walks f_points_of f_count_cycles f_law fd_law_alike fd_law_has_band fd_law_taken fd_law_pattern fd_law_next fd_law_points fd_law_told fd_covered fd_has_band fd_is_in fd_need_number fd_need_pattern fd_repeats fd_piece_beside fd_step_beside fd_walk_beside fd_beside_walks fd_closed_walks fd_simple_walks fd_points_of fd_count_cycles fd_law u_MOST_PATTERN u_MOST_PERIOD C_BadNumber C_BadPattern C_ShiftError C_TooMany I_TooMany J_TooMany c_need_pattern P_need_pattern c_repeats P_repeats c_simple_walks P_simple_walks c_law P_law X.base T) (cdv : Value) (hu : ∀ s H a pn, (((toldZ X N_law_told "_law_told" (defScope s_law_told) f_law_told cdv s H).suite a pn).A).units + 66 < cLine) (y : Xn) (o : O) (h : Cl_law_told y = some o) (s : Shared) (H : Hp) : Tells X.K X.mg T0 (toldZ X N_law_told "_law_told" (defScope s_law_told) f_law_told cdv s H) C_ShiftError 1 su_law_told y o := by
  unfold Cl_law_told at h
  split at h
  case isFalse => cases h
  rename_i h1
  obtain ⟨c, fl⟩ := y
  unfold ok_law_told at h1
  simp only [Bool.or_eq_true, Bool.and_eq_true, beq_iff_eq] at h1
  rcases h1 with (⟨h0, h2⟩ | ⟨h0, h2⟩) | ⟨h0, h2⟩
  · cases fl with
    | some _ => cases h2
    | none =>
    cases h0
    exact ⟨C_BadNumber, fun a => S_law_told (bo_law_told "BadNumber") none a, Y.xc_BadNumber, Y.xm_BadNumber, Y.xe_BadNumber, True.intro, fun a oe d pn T1 C => sd_law_told (x := ⟨"BadNumber", none⟩) Y (hu s H a _) (bo_law_told "BadNumber") C Y.xq_BadNumber_TooMany, fun a => run_of ((par_law_told_BadNumber a).trans h)⟩
  · cases fl with
    | some _ => cases h2
    | none =>
    cases h0
    exact ⟨C_BadPattern, fun a => S_law_told (bo_law_told "BadPattern") none a, Y.xc_BadPattern, Y.xm_BadPattern, Y.xe_BadPattern, True.intro, fun a oe d pn T1 C => sd_law_told (x := ⟨"BadPattern", none⟩) Y (hu s H a _) (bo_law_told "BadPattern") C Y.xq_BadPattern_TooMany, fun a => run_of ((par_law_told_BadPattern a).trans h)⟩
  · obtain ⟨z, h3, h4⟩ := okF1_of h2
    cases h0
    cases h3
    exact ⟨C_TooMany, fun a => S_law_told (bo_law_told "TooMany") (some ("most", z)) a, Y.xc_TooMany, Y.xm_TooMany, Y.xe_TooMany, ⟨h4, Y.xn_TooMany⟩, fun a oe d pn T1 C => sd_law_told (x := ⟨"TooMany", some ("most", z)⟩) Y (hu s H a _) (bo_law_told "TooMany") C Y.xq_TooMany_TooMany, fun a => run_of ((par_law_told_TooMany a z).trans h)⟩

theorem hc_covered (Y : Tx K mg f_law_alike f_law_has_band f_law_taken f_law_pattern f_law_next f_law_points f_law_told f_covered f_has_band f_is_in f_need_number f_need_pattern f_repeats f_piece_beside f_step_beside f_walk_beside f_beside_walks f_closed_walks f_simple_walks f_points_of f_count_cycles f_law fd_law_alike fd_law_has_band fd_law_taken fd_law_pattern fd_law_next fd_law_points fd_law_told fd_covered fd_has_band fd_is_in fd_need_number fd_need_pattern fd_repeats fd_piece_beside fd_step_beside fd_walk_beside fd_beside_walks fd_closed_walks fd_simple_walks fd_points_of fd_count_cycles fd_law u_MOST_PATTERN u_MOST_PERIOD C_BadNumber C_BadPattern C_ShiftError C_TooMany I_TooMany J_TooMany c_need_pattern P_need_pattern c_repeats P_repeats c_simple_walks P_simple_walks c_law P_law base T) : FnOk P w K mg base CX0 1 f_covered fd_covered ["pattern", "piece"] (spD K T F_covered) := by
  have nd := sc_covered.nd
  exact def_ok (lk := (fun i => [true, true].getD i false)) Y.F_covered sc_covered (fun i hi => lk_out hi rfl) fun cdv A outer s H E hr => (svs_cons (sv_tg (ev_b1 o1_sortT Y.m_sorted (ov_e (ev_cut (ov_e (ev_var 0)) (hv_at (ev_var 1)) (hv_at (ev_bin o2_add (ov_e (ev_var 1)) (ov_e ev_int)))))) (gv_lst rfl (gvs_cons (gv_name 2 nd) (gvs_cons (gv_name 3 nd) gvs_nil)) rfl (fun _ h => pg_lst rfl h)))
  (svs_one (sv_ret (ev_listR rfl Y.m_list (rv_2 Y.m_range (ev_var 2) (ev_var 3))))))
theorem hc_has_band (Y : Tx K mg f_law_alike f_law_has_band f_law_taken f_law_pattern f_law_next f_law_points f_law_told f_covered f_has_band f_is_in f_need_number f_need_pattern f_repeats f_piece_beside f_step_beside f_walk_beside f_beside_walks f_closed_walks f_simple_walks f_points_of f_count_cycles f_law fd_law_alike fd_law_has_band fd_law_taken fd_law_pattern fd_law_next fd_law_points fd_law_told fd_covered fd_has_band fd_is_in fd_need_number fd_need_pattern fd_repeats fd_piece_beside fd_step_beside fd_walk_beside fd_beside_walks fd_closed_walks fd_simple_walks fd_points_of fd_count_cycles fd_law u_MOST_PATTERN u_MOST_PERIOD C_BadNumber C_BadPattern C_ShiftError C_TooMany I_TooMany J_TooMany c_need_pattern P_need_pattern c_repeats P_repeats c_simple_walks P_simple_walks c_law P_law base T) : FnOk P w K mg base CX0 2 f_has_band fd_has_band ["pattern"] (spD K T F_has_band) := by
  have nd := sc_has_band.nd
  exact def_ok (lk := (fun i => [true].getD i false)) Y.F_has_band sc_has_band (fun i hi => lk_out hi rfl) fun cdv A outer s H E hr => (svs_cons (sv_for PassesOwn.never rfl (iv_rng1 Y.m_range (ev_bin o2_sub (ov_e (ev_b1 o1_len Y.m_len (ov_e (ev_var 0)))) (ov_e ev_int))) (gv_name 1 nd) (svs_cons (sv_par2 2 3 rfl nd (ev_var 1) ev_dnewK)
  (svs_cons (sv_while FU PassesOwn.never (BW.bv (bw_and (bv_cmp (c2_dnotin hr) (ov_e (ev_var 2)) (ov_s 3)) (bw_and1 (bv_cmp (c2_eq hr) (ov_e (ev_b1 o1_len Y.m_len (ov_e (ev_call (hc_covered Y) (hr.mono (by decide)) Y.g_covered Y.k_covered Y.b_covered (av_cons (ev_var 0) (av_cons (ev_var 2) av_nil)))))) (ov_e ev_int))))) (svs_cons (sv_dput 3 hr ev_bl (ev_var 2))
  (svs_one (sv_set 2 nd (ev_sub (ov_e (ev_call (hc_covered Y) (hr.mono (by decide)) Y.g_covered Y.k_covered Y.b_covered (av_cons (ev_var 0) (av_cons (ev_var 2) av_nil)))) (ov_e ev_int))))))
  (svs_one (sv_if (BW.bv (bw_and (bv_cmp (c2_eq hr) (ov_e (ev_var 2)) (ov_e (ev_var 1))) (bw_and1 (bv_cmp (c2_din hr) (ov_e (ev_var 2)) (ov_s 3))))) (svs_one (sv_ret ev_bl)) svs_nil)))))
  (svs_one (sv_ret ev_bl)))
theorem hc_is_in (Y : Tx K mg f_law_alike f_law_has_band f_law_taken f_law_pattern f_law_next f_law_points f_law_told f_covered f_has_band f_is_in f_need_number f_need_pattern f_repeats f_piece_beside f_step_beside f_walk_beside f_beside_walks f_closed_walks f_simple_walks f_points_of f_count_cycles f_law fd_law_alike fd_law_has_band fd_law_taken fd_law_pattern fd_law_next fd_law_points fd_law_told fd_covered fd_has_band fd_is_in fd_need_number fd_need_pattern fd_repeats fd_piece_beside fd_step_beside fd_walk_beside fd_beside_walks fd_closed_walks fd_simple_walks fd_points_of fd_count_cycles fd_law u_MOST_PATTERN u_MOST_PERIOD C_BadNumber C_BadPattern C_ShiftError C_TooMany I_TooMany J_TooMany c_need_pattern P_need_pattern c_repeats P_repeats c_simple_walks P_simple_walks c_law P_law base T) : FnOk P w K mg base CX0 1 f_is_in fd_is_in ["value", "least", "most"] (spD K T F_is_in) := by
  have nd := sc_is_in.nd
  exact def_ok (lk := (fun i => [true, true, true].getD i false)) Y.F_is_in sc_is_in (fun i hi => lk_out hi rfl) fun cdv A outer s H E hr => (svs_one (sv_ret (ev_and (ev_isa Y.m_isinstance Y.m_int (ov_e (ev_var 0))) (ev_and (ev_not (ev_isa Y.m_isinstance Y.m_bool (ov_e (ev_var 0)))) (ev_one (ev_chain (c2_le hr) (c2_le hr) (ev_var 1) (ev_var 0) (ev_var 2)))))))
theorem hc_need_number (Y : Tx K mg f_law_alike f_law_has_band f_law_taken f_law_pattern f_law_next f_law_points f_law_told f_covered f_has_band f_is_in f_need_number f_need_pattern f_repeats f_piece_beside f_step_beside f_walk_beside f_beside_walks f_closed_walks f_simple_walks f_points_of f_count_cycles f_law fd_law_alike fd_law_has_band fd_law_taken fd_law_pattern fd_law_next fd_law_points fd_law_told fd_covered fd_has_band fd_is_in fd_need_number fd_need_pattern fd_repeats fd_piece_beside fd_step_beside fd_walk_beside fd_beside_walks fd_closed_walks fd_simple_walks fd_points_of fd_count_cycles fd_law u_MOST_PATTERN u_MOST_PERIOD C_BadNumber C_BadPattern C_ShiftError C_TooMany I_TooMany J_TooMany c_need_pattern P_need_pattern c_repeats P_repeats c_simple_walks P_simple_walks c_law P_law base T) : FnOk P w K mg base (L2.CX P w) 2 f_need_number fd_need_number ["number", "least", "most"] (spDX K mg T F_need_number) := by
  have nd := sc_need_number.nd
  exact def_okX (lk := (fun i => [true, true, true].getD i false)) Y.F_need_number sc_need_number (fun i hi => lk_out hi rfl) fun cdv A outer s H E hr => (svs_one (sv_if (bv_not (bv_tru (ov_e (ev_call (hc_is_in Y) (hr.mono (by decide)) Y.g_is_in Y.k_is_in Y.b_is_in (av_cons (ev_var 0) (av_cons (ev_var 1) (av_cons (ev_var 2) av_nil))))))) (svs_one (sv_raise0 Y.xf_BadNumber rfl)) svs_nil))
theorem hc_need_pattern (Y : Tx K mg f_law_alike f_law_has_band f_law_taken f_law_pattern f_law_next f_law_points f_law_told f_covered f_has_band f_is_in f_need_number f_need_pattern f_repeats f_piece_beside f_step_beside f_walk_beside f_beside_walks f_closed_walks f_simple_walks f_points_of f_count_cycles f_law fd_law_alike fd_law_has_band fd_law_taken fd_law_pattern fd_law_next fd_law_points fd_law_told fd_covered fd_has_band fd_is_in fd_need_number fd_need_pattern fd_repeats fd_piece_beside fd_step_beside fd_walk_beside fd_beside_walks fd_closed_walks fd_simple_walks fd_points_of fd_count_cycles fd_law u_MOST_PATTERN u_MOST_PERIOD C_BadNumber C_BadPattern C_ShiftError C_TooMany I_TooMany J_TooMany c_need_pattern P_need_pattern c_repeats P_repeats c_simple_walks P_simple_walks c_law P_law base T) : FnOk P w K mg base (L2.CX P w) 3 f_need_pattern fd_need_pattern ["pattern"] (spDX K mg T F_need_pattern) := by
  have nd := sc_need_pattern.nd
  exact def_okTX (lk := (fun i => [true].getD i false)) Y.cd_need_pattern Y.F_need_pattern sc_need_pattern (fun i hi => lk_out hi rfl) fun A outer s H E hr => (svs_cons (sv_if (BW.bv (bw_or (bv_not (bv_tru (ov_e (ev_isa Y.m_isinstance Y.m_tuple (ov_e (ev_var 0)))))) (bw_or1 (bv_not (bv_chain (c2_le hr) (c2_le hr) ev_int (ev_b1 o1_len Y.m_len (ov_e (ev_var 0))) (ev_glob Y.g_MOST_PATTERN Y.r_MOST_PATTERN (fun _ => .int _))))))) (svs_one (sv_raise0 Y.xf_BadPattern rfl)) svs_nil)
  (svs_cons (sv_if (bv_not (bv_tru (ov_e (ev_all (own := [("one", 3)]) hr Y.m_all Y.tb_need_pattern Y.tp_need_pattern rfl nd (blkOk_by (own := [("one", 3)]) (N := N_need_pattern) (sc := defScope s_need_pattern) (by first | decide +kernel | kernel_rfl)) (genOk_by (by first | decide +kernel | kernel_rfl)) (iv_seq (ev_var 0)) (fun _ _ _ _ _ _ hr => (gv_name 3 nd)) gt_none (fun _ _ _ _ _ _ hr => (ev_call (hc_is_in Y) (hr.mono (by decide)) Y.g_is_in Y.k_is_in Y.b_is_in (av_cons (ev_var 3) (av_cons ev_int (av_cons (ev_bin o2_sub (ov_e (ev_b1 o1_len Y.m_len (ov_e (ev_var 0)))) (ov_e ev_int)) av_nil))))))))) (svs_one (sv_raise0 Y.xf_BadPattern rfl)) svs_nil)
  (svs_cons (sv_par2 1 2 rfl nd ev_int ev_dnewK)
  (svs_cons (sv_while FU (passes_of rfl) (bv_cmp (c2_dnotin hr) (ov_e (ev_var 1)) (ov_s 2)) (svs_cons (sv_dput 2 hr ev_bl (ev_var 1))
  (svs_one (sv_set 1 nd (ev_sub (ov_e (ev_var 0)) (ov_e (ev_var 1)))))))
  (svs_one (sv_if (bv_cmp (c2_lt hr) (ov_e (ev_b1 o1_len Y.m_len (ov_s 2))) (ov_e (ev_b1 o1_len Y.m_len (ov_e (ev_var 0))))) (svs_one (sv_raise0 Y.xf_BadPattern rfl)) svs_nil))))))
theorem hc_repeats (Y : Tx K mg f_law_alike f_law_has_band f_law_taken f_law_pattern f_law_next f_law_points f_law_told f_covered f_has_band f_is_in f_need_number f_need_pattern f_repeats f_piece_beside f_step_beside f_walk_beside f_beside_walks f_closed_walks f_simple_walks f_points_of f_count_cycles f_law fd_law_alike fd_law_has_band fd_law_taken fd_law_pattern fd_law_next fd_law_points fd_law_told fd_covered fd_has_band fd_is_in fd_need_number fd_need_pattern fd_repeats fd_piece_beside fd_step_beside fd_walk_beside fd_beside_walks fd_closed_walks fd_simple_walks fd_points_of fd_count_cycles fd_law u_MOST_PATTERN u_MOST_PERIOD C_BadNumber C_BadPattern C_ShiftError C_TooMany I_TooMany J_TooMany c_need_pattern P_need_pattern c_repeats P_repeats c_simple_walks P_simple_walks c_law P_law base T) : FnOk P w K mg base CX0 2 f_repeats fd_repeats ["walk"] (spD K T F_repeats) := by
  have nd := sc_repeats.nd
  exact def_okT (lk := (fun i => [true].getD i false)) Y.cd_repeats Y.F_repeats sc_repeats (fun i hi => lk_out hi rfl) fun A outer s H E hr => (svs_one (sv_ret (ev_any (own := [("size", 1)]) hr Y.m_any Y.tb_repeats Y.tp_repeats rfl nd (blkOk_by (own := [("size", 1)]) (N := N_repeats) (sc := defScope s_repeats) (by first | decide +kernel | kernel_rfl)) (genOk_by (by first | decide +kernel | kernel_rfl)) (iv_rng2 Y.m_range ev_int (ev_b1 o1_len Y.m_len (ov_e (ev_var 0)))) (fun _ _ _ _ _ _ hr => (gv_name 1 nd)) gt_none (fun _ _ _ _ _ _ hr => (ev_and (ev_cmp (c2_eq hr) (ov_e (ev_bin o2_mod (ov_e (ev_b1 o1_len Y.m_len (ov_e (ev_var 0)))) (ov_e (ev_var 1)))) (ov_e ev_int)) (ev_one (ev_cmp (c2_eq hr) (ov_e (ev_bin o2_rep (ov_e (ev_cut (ov_e (ev_var 0)) hv_no (hv_at (ev_var 1)))) (ov_e (ev_bin o2_div (ov_e (ev_b1 o1_len Y.m_len (ov_e (ev_var 0)))) (ov_e (ev_var 1)))))) (ov_e (ev_var 0)))))))))
theorem hc_piece_beside (Y : Tx K mg f_law_alike f_law_has_band f_law_taken f_law_pattern f_law_next f_law_points f_law_told f_covered f_has_band f_is_in f_need_number f_need_pattern f_repeats f_piece_beside f_step_beside f_walk_beside f_beside_walks f_closed_walks f_simple_walks f_points_of f_count_cycles f_law fd_law_alike fd_law_has_band fd_law_taken fd_law_pattern fd_law_next fd_law_points fd_law_told fd_covered fd_has_band fd_is_in fd_need_number fd_need_pattern fd_repeats fd_piece_beside fd_step_beside fd_walk_beside fd_beside_walks fd_closed_walks fd_simple_walks fd_points_of fd_count_cycles fd_law u_MOST_PATTERN u_MOST_PERIOD C_BadNumber C_BadPattern C_ShiftError C_TooMany I_TooMany J_TooMany c_need_pattern P_need_pattern c_repeats P_repeats c_simple_walks P_simple_walks c_law P_law base T) : FnOk P w K mg base CX0 1 f_piece_beside fd_piece_beside ["beside"] (spD K T F_piece_beside) := by
  have nd := sc_piece_beside.nd
  exact def_ok (lk := (fun i => [true].getD i false)) Y.F_piece_beside sc_piece_beside (fun i hi => lk_out hi rfl) fun cdv A outer s H E hr => (svs_one (sv_ret (ev_if (bv_cmp (c2_eq hr) (ov_e (ev_sub (ov_e (ev_var 0)) (ov_e ev_int))) (ov_e ev_int)) (ev_sub (ov_e (ev_var 0)) (ov_e ev_int)) (ev_bin o2_sub (ov_e (ev_sub (ov_e (ev_var 0)) (ov_e ev_int))) (ov_e ev_int)))))
theorem hc_step_beside (Y : Tx K mg f_law_alike f_law_has_band f_law_taken f_law_pattern f_law_next f_law_points f_law_told f_covered f_has_band f_is_in f_need_number f_need_pattern f_repeats f_piece_beside f_step_beside f_walk_beside f_beside_walks f_closed_walks f_simple_walks f_points_of f_count_cycles f_law fd_law_alike fd_law_has_band fd_law_taken fd_law_pattern fd_law_next fd_law_points fd_law_told fd_covered fd_has_band fd_is_in fd_need_number fd_need_pattern fd_repeats fd_piece_beside fd_step_beside fd_walk_beside fd_beside_walks fd_closed_walks fd_simple_walks fd_points_of fd_count_cycles fd_law u_MOST_PATTERN u_MOST_PERIOD C_BadNumber C_BadPattern C_ShiftError C_TooMany I_TooMany J_TooMany c_need_pattern P_need_pattern c_repeats P_repeats c_simple_walks P_simple_walks c_law P_law base T) : FnOk P w K mg base CX0 1 f_step_beside fd_step_beside ["pattern", "beside"] (spD K T F_step_beside) := by
  have nd := sc_step_beside.nd
  exact def_ok (lk := (fun i => [true, true].getD i false)) Y.F_step_beside sc_step_beside (fun i hi => lk_out hi rfl) fun cdv A outer s H E hr => (svs_cons (sv_tg (ev_var 1) (gv_tup rfl (gvs_cons (gv_name 2 nd) (gvs_cons (gv_name 3 nd) gvs_nil)) rfl (fun _ h => pg_tup rfl h)))
  (svs_cons (sv_setF 4 nd (ev_if (bv_cmp (c2_gt hr) (ov_e (ev_sub (ov_e (ev_var 0)) (ov_e (ev_bin o2_add (ov_e (ev_var 2)) (ov_e (ev_var 3)))))) (ov_e (ev_sub (ov_e (ev_var 0)) (ov_e (ev_var 2))))) ev_int (ev_un o1_neg (ov_e ev_int))))
  (svs_one (sv_ret (ev_tup (av_cons (ev_sub (ov_e (ev_var 0)) (ov_e (ev_var 2))) (av_cons (ev_var 4) av_nil)))))))
theorem hc_walk_beside (Y : Tx K mg f_law_alike f_law_has_band f_law_taken f_law_pattern f_law_next f_law_points f_law_told f_covered f_has_band f_is_in f_need_number f_need_pattern f_repeats f_piece_beside f_step_beside f_walk_beside f_beside_walks f_closed_walks f_simple_walks f_points_of f_count_cycles f_law fd_law_alike fd_law_has_band fd_law_taken fd_law_pattern fd_law_next fd_law_points fd_law_told fd_covered fd_has_band fd_is_in fd_need_number fd_need_pattern fd_repeats fd_piece_beside fd_step_beside fd_walk_beside fd_beside_walks fd_closed_walks fd_simple_walks fd_points_of fd_count_cycles fd_law u_MOST_PATTERN u_MOST_PERIOD C_BadNumber C_BadPattern C_ShiftError C_TooMany I_TooMany J_TooMany c_need_pattern P_need_pattern c_repeats P_repeats c_simple_walks P_simple_walks c_law P_law base T) : FnOk P w K mg base CX0 2 f_walk_beside fd_walk_beside ["pattern", "beside"] (spD K T F_walk_beside) := by
  have nd := sc_walk_beside.nd
  exact def_ok (lk := (fun i => [true, true].getD i false)) Y.F_walk_beside sc_walk_beside (fun i hi => lk_out hi rfl) fun cdv A outer s H E hr => (svs_cons (sv_par2 2 3 rfl nd (ev_var 1) (ev_lst av_nil))
  (svs_cons (sv_while FU PassesOwn.never (bv_cmp (c2_le hr) (ov_e (ev_b1 o1_len Y.m_len (ov_s 3))) (ov_e (ev_bin o2_mul (ov_e ev_int) (ov_e (ev_b1 o1_len Y.m_len (ov_e (ev_var 0))))))) (svs_cons (sv_app 3 (ev_call (hc_piece_beside Y) (hr.mono (by decide)) Y.g_piece_beside Y.k_piece_beside Y.b_piece_beside (av_cons (ev_var 2) av_nil)))
  (svs_cons (sv_setF 2 nd (ev_call (hc_step_beside Y) (hr.mono (by decide)) Y.g_step_beside Y.k_step_beside Y.b_step_beside (av_cons (ev_var 0) (av_cons (ev_var 2) av_nil))))
  (svs_one (sv_if (bv_cmp (c2_eq hr) (ov_e (ev_var 2)) (ov_e (ev_var 1))) (svs_one (sv_retS 3)) svs_nil)))))
  (svs_one (sv_ret ev_non))))
theorem hc_beside_walks (Y : Tx K mg f_law_alike f_law_has_band f_law_taken f_law_pattern f_law_next f_law_points f_law_told f_covered f_has_band f_is_in f_need_number f_need_pattern f_repeats f_piece_beside f_step_beside f_walk_beside f_beside_walks f_closed_walks f_simple_walks f_points_of f_count_cycles f_law fd_law_alike fd_law_has_band fd_law_taken fd_law_pattern fd_law_next fd_law_points fd_law_told fd_covered fd_has_band fd_is_in fd_need_number fd_need_pattern fd_repeats fd_piece_beside fd_step_beside fd_walk_beside fd_beside_walks fd_closed_walks fd_simple_walks fd_points_of fd_count_cycles fd_law u_MOST_PATTERN u_MOST_PERIOD C_BadNumber C_BadPattern C_ShiftError C_TooMany I_TooMany J_TooMany c_need_pattern P_need_pattern c_repeats P_repeats c_simple_walks P_simple_walks c_law P_law base T) : FnOk P w K mg base CX0 3 f_beside_walks fd_beside_walks ["pattern", "period"] (spD K T F_beside_walks) := by
  have nd := sc_beside_walks.nd
  exact def_ok (lk := (fun i => [true, true].getD i false)) Y.F_beside_walks sc_beside_walks (fun i hi => lk_out hi rfl) fun cdv A outer s H E hr => (svs_cons (sv_setF 2 nd (ev_bin o2_add (ov_e (ev_comp (own := [("k", 5)]) rfl nd (blkOk_by (own := [("k", 5)]) (N := N_beside_walks) (sc := defScope s_beside_walks) (by first | decide +kernel | kernel_rfl)) (iv_rng1 Y.m_range (ev_bin o2_sub (ov_e (ev_b1 o1_len Y.m_len (ov_e (ev_var 0)))) (ov_e ev_int))) (fun _ _ _ _ _ => (gv_name 5 nd)) (fun _ _ _ _ _ => (ev_tup (av_cons (ev_var 5) (av_cons ev_int av_nil)))))) (ov_e (ev_comp (own := [("k", 5)]) rfl nd (blkOk_by (own := [("k", 5)]) (N := N_beside_walks) (sc := defScope s_beside_walks) (by first | decide +kernel | kernel_rfl)) (iv_rng2 Y.m_range ev_int (ev_b1 o1_len Y.m_len (ov_e (ev_var 0)))) (fun _ _ _ _ _ => (gv_name 5 nd)) (fun _ _ _ _ _ => (ev_tup (av_cons (ev_var 5) (av_cons (ev_un o1_neg (ov_e ev_int)) av_nil))))))))
  (svs_cons (sv_setC (own := [("beside", 4)]) 3 true rfl nd (blkOk_by (own := [("beside", 4)]) (N := N_beside_walks) (sc := defScope s_beside_walks) (by first | decide +kernel | kernel_rfl)) (iv_seq (ev_var 2)) (fun _ _ _ _ _ => (gv_name 4 nd)) (fun _ _ _ _ _ => (ev_call (hc_walk_beside Y) (hr.mono (by decide)) Y.g_walk_beside Y.k_walk_beside Y.b_walk_beside (av_cons (ev_var 0) (av_cons (ev_var 4) av_nil)))))
  (svs_one (sv_ret (ev_b1 o1_len Y.m_len (ov_e (ev_compIf (own := [("walk", 6)]) rfl nd (blkOk_by (own := [("walk", 6)]) (N := N_beside_walks) (sc := defScope s_beside_walks) (by first | decide +kernel | kernel_rfl)) (iv_seq (ev_var 3)) (fun _ _ _ _ _ => (gv_name 6 nd)) (fun _ _ _ _ _ => (BW.bv (bw_and (bv_cmp c2_isnot (ov_e (ev_var 6)) (ov_e ev_non)) (bw_and (bv_cmp (c2_eq hr) (ov_e (ev_b1 o1_len Y.m_len (ov_e (ev_var 6)))) (ov_e (ev_var 1))) (bw_and1 (bv_not (bv_tru (ov_e (ev_call (hc_repeats Y) (hr.mono (by decide)) Y.g_repeats Y.k_repeats Y.b_repeats (av_cons (ev_var 6) av_nil)))))))))) (fun _ _ _ _ _ => (ev_var 6)))))))))
theorem hc_closed_walks (Y : Tx K mg f_law_alike f_law_has_band f_law_taken f_law_pattern f_law_next f_law_points f_law_told f_covered f_has_band f_is_in f_need_number f_need_pattern f_repeats f_piece_beside f_step_beside f_walk_beside f_beside_walks f_closed_walks f_simple_walks f_points_of f_count_cycles f_law fd_law_alike fd_law_has_band fd_law_taken fd_law_pattern fd_law_next fd_law_points fd_law_told fd_covered fd_has_band fd_is_in fd_need_number fd_need_pattern fd_repeats fd_piece_beside fd_step_beside fd_walk_beside fd_beside_walks fd_closed_walks fd_simple_walks fd_points_of fd_count_cycles fd_law u_MOST_PATTERN u_MOST_PERIOD C_BadNumber C_BadPattern C_ShiftError C_TooMany I_TooMany J_TooMany c_need_pattern P_need_pattern c_repeats P_repeats c_simple_walks P_simple_walks c_law P_law base T) : FnOk P w K mg base CX0 2 f_closed_walks fd_closed_walks ["pattern", "length"] (spD K T F_closed_walks) := by
  have nd := sc_closed_walks.nd
  exact def_ok (lk := (fun i => [true, true].getD i false)) Y.F_closed_walks sc_closed_walks (fun i hi => lk_out hi rfl) fun cdv A outer s H E hr => (svs_cons (sv_setC (own := [("piece", 2)]) 3 true rfl nd (blkOk_by (own := [("piece", 2)]) (N := N_closed_walks) (sc := defScope s_closed_walks) (by first | decide +kernel | kernel_rfl)) (iv_rng1 Y.m_range (ev_bin o2_sub (ov_e (ev_b1 o1_len Y.m_len (ov_e (ev_var 0)))) (ov_e ev_int))) (fun _ _ _ _ _ => (gv_name 2 nd)) (fun _ _ _ _ _ => (ev_call (hc_covered Y) (hr.mono (by decide)) Y.g_covered Y.k_covered Y.b_covered (av_cons (ev_var 0) (av_cons (ev_var 2) av_nil)))))
  (svs_cons (sv_setC (own := [("turn", 4)]) 5 false rfl nd (blkOk_by (own := [("turn", 4)]) (N := N_closed_walks) (sc := defScope s_closed_walks) (by first | decide +kernel | kernel_rfl)) (iv_rng1 Y.m_range (ev_var 1)) (fun _ _ _ _ _ => (gv_name 4 nd)) (fun _ _ _ _ _ => ev_int))
  (svs_cons (sv_for PassesOwn.never rfl (iv_rng1 Y.m_range (ev_b1 o1_len Y.m_len (ov_e (ev_var 3)))) (gv_name 6 nd) (svs_cons (sv_set 7 nd (ev_dict1 (ev_var 6) ev_int))
  (svs_one (sv_for PassesOwn.never rfl (iv_rng1 Y.m_range (ev_var 1)) (gv_name 4 nd) (svs_cons (sv_set 8 nd ev_dnewK)
  (svs_cons (sv_lock 7 (sv_for PassesOwn.never rfl (iv_dict 7) (gv_name 2 nd) (svs_one (sv_for PassesOwn.never rfl (iv_seq (ev_sub (ov_e (ev_var 3)) (ov_e (ev_var 2)))) (gv_name 9 nd) (svs_one (sv_dput 8 hr (ev_bin o2_add (ov_e (ev_get2 8 hr (ev_var 9) ev_int)) (ov_e (ev_dget hr (ov_s 7) (ov_e (ev_var 2))))) (ev_var 9)))))))
  (svs_cons (sv_move 7 8 nd)
  (svs_one (sv_sub 5 (ev_bin o2_add (ov_e (ev_sub (ov_s 5) (ov_e (ev_var 4)))) (ov_e (ev_get2 7 hr (ev_var 6) ev_int))) (ev_var 4))))))))))
  (svs_one (sv_retS 5)))))
theorem hc_simple_walks (Y : Tx K mg f_law_alike f_law_has_band f_law_taken f_law_pattern f_law_next f_law_points f_law_told f_covered f_has_band f_is_in f_need_number f_need_pattern f_repeats f_piece_beside f_step_beside f_walk_beside f_beside_walks f_closed_walks f_simple_walks f_points_of f_count_cycles f_law fd_law_alike fd_law_has_band fd_law_taken fd_law_pattern fd_law_next fd_law_points fd_law_told fd_covered fd_has_band fd_is_in fd_need_number fd_need_pattern fd_repeats fd_piece_beside fd_step_beside fd_walk_beside fd_beside_walks fd_closed_walks fd_simple_walks fd_points_of fd_count_cycles fd_law u_MOST_PATTERN u_MOST_PERIOD C_BadNumber C_BadPattern C_ShiftError C_TooMany I_TooMany J_TooMany c_need_pattern P_need_pattern c_repeats P_repeats c_simple_walks P_simple_walks c_law P_law base T) : FnOk P w K mg base CX0 3 f_simple_walks fd_simple_walks ["pattern", "period"] (spD K T F_simple_walks) := by
  have nd := sc_simple_walks.nd
  exact def_okT (lk := (fun i => [true, true].getD i false)) Y.cd_simple_walks Y.F_simple_walks sc_simple_walks (fun i hi => lk_out hi rfl) fun A outer s H E hr => (svs_cons (sv_parN rfl (av_cons (ev_fr (ev_call (hc_closed_walks Y) (hr.mono (by decide)) Y.g_closed_walks Y.k_closed_walks Y.b_closed_walks (av_cons (ev_var 0) (av_cons (ev_var 1) av_nil)))) (av_cons (ev_lst av_nil) av_nil)) (gos_cons (go_name 2 nd) (gos_cons (go_name 3 nd) gos_nil)) (ht := fun _ h => pg_tup rfl h))
  (svs_cons (sv_for PassesOwn.never rfl (iv_rng2 Y.m_range ev_int (ev_bin o2_add (ov_e (ev_var 1)) (ov_e ev_int))) (gv_name 4 nd) (svs_one (sv_app 3 (ev_bin o2_sub (ov_e (ev_sub (ov_e (ev_var 2)) (ov_e (ev_bin o2_sub (ov_e (ev_var 4)) (ov_e ev_int))))) (ov_e (ev_sumG (own := [("k", 5)]) hr Y.m_sum Y.tb_simple_walks Y.tp_simple_walks rfl nd (blkOk_by (own := [("k", 5)]) (N := N_simple_walks) (sc := defScope s_simple_walks) (by first | decide +kernel | kernel_rfl)) (genOk_by (by first | decide +kernel | kernel_rfl)) (iv_rng2 Y.m_range ev_int (ev_var 4)) (fun _ _ _ _ _ _ hr => (gv_name 5 nd)) (gt_one (fun _ _ _ _ _ _ hr => (bv_cmp (c2_eq hr) (ov_e (ev_bin o2_mod (ov_e (ev_var 4)) (ov_e (ev_var 5)))) (ov_e ev_int)))) (fun _ _ _ _ _ _ hr => (ev_sub (ov_s 3) (ov_e (ev_bin o2_sub (ov_e (ev_var 5)) (ov_e ev_int)))))))))))
  (svs_one (sv_ret (ev_sub (ov_s 3) (ov_e (ev_un o1_neg (ov_e ev_int))))))))
theorem hc_points_of (Y : Tx K mg f_law_alike f_law_has_band f_law_taken f_law_pattern f_law_next f_law_points f_law_told f_covered f_has_band f_is_in f_need_number f_need_pattern f_repeats f_piece_beside f_step_beside f_walk_beside f_beside_walks f_closed_walks f_simple_walks f_points_of f_count_cycles f_law fd_law_alike fd_law_has_band fd_law_taken fd_law_pattern fd_law_next fd_law_points fd_law_told fd_covered fd_has_band fd_is_in fd_need_number fd_need_pattern fd_repeats fd_piece_beside fd_step_beside fd_walk_beside fd_beside_walks fd_closed_walks fd_simple_walks fd_points_of fd_count_cycles fd_law u_MOST_PATTERN u_MOST_PERIOD C_BadNumber C_BadPattern C_ShiftError C_TooMany I_TooMany J_TooMany c_need_pattern P_need_pattern c_repeats P_repeats c_simple_walks P_simple_walks c_law P_law base T) : FnOk P w K mg base CX0 4 f_points_of fd_points_of ["pattern", "period"] (spD K T F_points_of) := by
  have nd := sc_points_of.nd
  exact def_ok (lk := (fun i => [true, true].getD i false)) Y.F_points_of sc_points_of (fun i hi => lk_out hi rfl) fun cdv A outer s H E hr => (svs_cons (sv_if (bv_cmp (c2_eq hr) (ov_e (ev_b1 o1_len Y.m_len (ov_e (ev_var 0)))) (ov_e ev_int)) (svs_one (sv_ret ev_int)) svs_nil)
  (svs_one (sv_ret (ev_bin o2_sub (ov_e (ev_call (hc_simple_walks Y) (hr.mono (by decide)) Y.g_simple_walks Y.k_simple_walks Y.b_simple_walks (av_cons (ev_var 0) (av_cons (ev_var 1) av_nil)))) (ov_e (ev_call (hc_beside_walks Y) (hr.mono (by decide)) Y.g_beside_walks Y.k_beside_walks Y.b_beside_walks (av_cons (ev_var 0) (av_cons (ev_var 1) av_nil))))))))
theorem hc_count_cycles (Y : Tx K mg f_law_alike f_law_has_band f_law_taken f_law_pattern f_law_next f_law_points f_law_told f_covered f_has_band f_is_in f_need_number f_need_pattern f_repeats f_piece_beside f_step_beside f_walk_beside f_beside_walks f_closed_walks f_simple_walks f_points_of f_count_cycles f_law fd_law_alike fd_law_has_band fd_law_taken fd_law_pattern fd_law_next fd_law_points fd_law_told fd_covered fd_has_band fd_is_in fd_need_number fd_need_pattern fd_repeats fd_piece_beside fd_step_beside fd_walk_beside fd_beside_walks fd_closed_walks fd_simple_walks fd_points_of fd_count_cycles fd_law u_MOST_PATTERN u_MOST_PERIOD C_BadNumber C_BadPattern C_ShiftError C_TooMany I_TooMany J_TooMany c_need_pattern P_need_pattern c_repeats P_repeats c_simple_walks P_simple_walks c_law P_law base T) : FnOk P w K mg base (L2.CX P w) 5 f_count_cycles fd_count_cycles ["pattern", "period"] (spDX K mg T F_count_cycles) := by
  have nd := sc_count_cycles.nd
  exact def_okX (lk := (fun i => [true, true].getD i false)) Y.F_count_cycles sc_count_cycles (fun i hi => lk_out hi rfl) fun cdv A outer s H E hr => (svs_cons (sv_exprX (xv_call (hc_need_pattern Y) (hr.mono (by decide)) Y.g_need_pattern Y.k_need_pattern Y.b_need_pattern (av_cons (ev_var 0) av_nil)))
  (svs_cons (sv_exprX (xv_call (hc_need_number Y) (hr.mono (by decide)) Y.g_need_number Y.k_need_number Y.b_need_number (av_cons (ev_var 1) (av_cons ev_int (av_cons (ev_glob Y.g_MOST_PERIOD Y.r_MOST_PERIOD (fun _ => .int _)) av_nil)))))
  (svs_cons (sv_if (bv_tru (ov_e (ev_call (hc_has_band Y) (hr.mono (by decide)) Y.g_has_band Y.k_has_band Y.b_has_band (av_cons (ev_var 0) av_nil)))) (svs_one (sv_raise1 (ii_TooMany Y) (hr.mono (by decide)) Y.xb_TooMany Y.xo_TooMany Y.xi_TooMany Y.xt_TooMany Y.xc_TooMany rfl ev_int)) svs_nil)
  (svs_one (sv_ret (ev_bin o2_add (ov_e (ev_bin o2_div (ov_e (ev_call (hc_points_of Y) (hr.mono (by decide)) Y.g_points_of Y.k_points_of Y.b_points_of (av_cons (ev_var 0) (av_cons (ev_var 1) av_nil)))) (ov_e (ev_var 1)))) (ov_e (ev_if (bv_cmp (c2_eq hr) (ov_e (ev_var 1)) (ov_e (ev_b1 o1_len Y.m_len (ov_e (ev_var 0))))) ev_int ev_int))))))))
theorem hc_law (Y : Tx K mg f_law_alike f_law_has_band f_law_taken f_law_pattern f_law_next f_law_points f_law_told f_covered f_has_band f_is_in f_need_number f_need_pattern f_repeats f_piece_beside f_step_beside f_walk_beside f_beside_walks f_closed_walks f_simple_walks f_points_of f_count_cycles f_law fd_law_alike fd_law_has_band fd_law_taken fd_law_pattern fd_law_next fd_law_points fd_law_told fd_covered fd_has_band fd_is_in fd_need_number fd_need_pattern fd_repeats fd_piece_beside fd_step_beside fd_walk_beside fd_beside_walks fd_closed_walks fd_simple_walks fd_points_of fd_count_cycles fd_law u_MOST_PATTERN u_MOST_PERIOD C_BadNumber C_BadPattern C_ShiftError C_TooMany I_TooMany J_TooMany c_need_pattern P_need_pattern c_repeats P_repeats c_simple_walks P_simple_walks c_law P_law base T) : FnOk P w K mg base CX0 14 f_law fd_law ["script"] (spD K T F_law) := by
  have nd := sc_law.nd
  exact def_okT (lk := (fun i => [true].getD i false)) Y.cd_law Y.F_law sc_law (fun i hi => lk_out hi rfl) fun A outer s H E hr => (svs_cons (sv_set 1 nd (ev_lst (av_cons (ev_var 0) (av_cons ev_int (av_cons ev_int (av_cons ev_int av_nil))))))
  (svs_cons (sv_parN rfl (av_cons (ev_fr (ev_call (hc_law_pattern Y) (hr.mono (by decide)) Y.g_law_pattern Y.k_law_pattern Y.b_law_pattern (av_own 1 (av_cons ev_int (av_cons ev_int av_nil))))) (av_cons (ev_fr (ev_bin o2_add (ov_e ev_int) (ov_e (ev_call (hc_law_taken Y) (hr.mono (by decide)) Y.g_law_taken Y.k_law_taken Y.b_law_taken (av_own 1 (av_cons ev_int av_nil)))))) av_nil)) (gos_cons (go_name 9 nd) (gos_cons (go_name 10 nd) gos_nil)) (ht := fun _ h => pg_tup rfl h))
  (svs_cons (sv_setF 2 nd (ev_toldF (k := 5) true (hr.mono (by decide)) Y.F_law_told Y.g_law_told Y.b_law_told sc_law_told rfl (by first | exact Or.inl rfl | exact Or.inr (Or.inl rfl) | exact Or.inr (Or.inr rfl)) (fun q cdv => hG_law_told Y q cdv) (fun cdv hu => tl_law_told Y cdv hu) Y.tl_law rfl Y.tq_law (fun A outer s H E f c' hr => (xv_call (hc_count_cycles Y) (hr.mono (by decide)) Y.g_count_cycles Y.k_count_cycles Y.b_count_cycles (av_cons (ev_var 9) (av_cons (ev_var 10) av_nil))))))
  (svs_cons (sv_if (bv_tru (ov_e (ev_call (hc_law_has_band Y) (hr.mono (by decide)) Y.g_law_has_band Y.k_law_has_band Y.b_law_has_band (av_cons (ev_var 9) av_nil)))) (svs_one (sv_ret (ev_call (hc_law_alike Y) (hr.mono (by decide)) Y.g_law_alike Y.k_law_alike Y.b_law_alike (av_cons (ev_var 2) (av_cons ev_str av_nil))))) svs_nil)
  (svs_cons (sv_setF 3 nd (ev_if (bv_cmp (c2_gt hr) (ov_e (ev_b1 o1_len Y.m_len (ov_e (ev_var 9)))) (ov_e ev_int)) (ev_call (hc_law_points Y) (hr.mono (by decide)) Y.g_law_points Y.k_law_points Y.b_law_points (av_cons (ev_var 9) (av_cons (ev_var 10) av_nil))) (ev_lst av_nil)))
  (svs_cons (sv_setF 4 nd (ev_lst av_nil))
  (svs_cons (sv_for PassesOwn.never rfl (iv_seq (ev_var 3)) (gv_tup rfl (gvs_cons (gv_name 5 nd) (gvs_cons (gv_name 6 nd) gvs_nil)) rfl (fun _ h => pg_tup rfl h)) (svs_one (sv_if (BW.bv (bw_and (bv_cmp (c2_eq hr) (ov_e (ev_compIf (own := [("k", 12)]) rfl nd (blkOk_by (own := [("k", 12)]) (N := N_law) (sc := defScope s_law) (by first | decide +kernel | kernel_rfl)) (iv_rng1 Y.m_range (ev_b1 o1_len Y.m_len (ov_e (ev_var 9)))) (fun _ _ _ _ _ => (gv_name 12 nd)) (fun _ _ _ _ _ => (bv_cmp (c2_eq hr) (ov_e (ev_var 5)) (ov_e (ev_bin o2_mul (ov_e (ev_var 12)) (ov_e (ev_var 6)))))) (fun _ _ _ _ _ => (ev_var 12)))) (ov_e (ev_lst av_nil))) (bw_and1 (bv_cmp (c2_notin hr) (ov_e (ev_tup (av_cons (ev_var 5) (av_cons (ev_var 6) av_nil)))) (ov_e (ev_var 4)))))) (svs_cons (sv_setCIf (own := [("one", 11)]) 7 true rfl nd (blkOk_by (own := [("one", 11)]) (N := N_law) (sc := defScope s_law) (by first | decide +kernel | kernel_rfl)) (iv_seq (ev_var 4)) (fun _ _ _ _ _ => (gv_name 11 nd)) (fun _ _ _ _ _ => (bv_cmp (c2_eq hr) (ov_e (ev_bin o2_mul (ov_e (ev_sub (ov_e (ev_var 11)) (ov_e ev_int))) (ov_e (ev_var 6)))) (ov_e (ev_bin o2_mul (ov_e (ev_var 5)) (ov_e (ev_sub (ov_e (ev_var 11)) (ov_e ev_int))))))) (fun _ _ _ _ _ => (ev_var 11)))
  (svs_one (sv_setF 4 nd (ev_bin o2_add (ov_e (ev_var 4)) (ov_e (ev_bin o2_rep (ov_e (ev_lst (av_cons (ev_tup (av_cons (ev_var 5) (av_cons (ev_var 6) av_nil))) av_nil))) (ov_e (ev_t1 o1_int Y.m_int (ov_e (ev_cmp (c2_eq hr) (ov_e (ev_var 7)) (ov_e (ev_lst av_nil)))))))))))) svs_nil)))
  (svs_cons (sv_setF 8 nd (ev_bin o2_add (ov_e (ev_bin o2_div (ov_e (ev_b1 o1_len Y.m_len (ov_e (ev_var 4)))) (ov_e (ev_var 10)))) (ov_e (ev_if (bv_cmp (c2_eq hr) (ov_e (ev_var 10)) (ov_e (ev_b1 o1_len Y.m_len (ov_e (ev_var 9))))) ev_int ev_int))))
  (svs_one (sv_ret (ev_and (ev_cmp (c2_eq hr) (ov_e (ev_bin o2_mod (ov_e (ev_t1 o1_int Y.m_int (ov_e (ev_b1 o1_len Y.m_len (ov_e (ev_var 4)))))) (ov_e (ev_var 10)))) (ov_e ev_int)) (ev_one (ev_call (hc_law_alike Y) (hr.mono (by decide)) Y.g_law_alike Y.k_law_alike Y.b_law_alike (av_cons (ev_var 2) (av_cons (ev_var 8) av_nil)))))))))))))))
end
theorem all_mk {l : PySem.W.OpenLaw} {w : World} {K : PySem.W.Frag} {h : Heap} {mg : Str → Option Value} {fa : Addr} {q : Program} (X : K.In h) (G : h.Ns mainGlobals mg) (hfa : mg "law" = some (.ref fa)) (R : Recs q mg h) (hl63 : l.most = some 63) (hlaw : ∀ ns : List Int, ns.length ≤ 63 → ∃ fs, F_law [.d (.list (ns.map .int))] = some (.d (.bool true), fs))
    {od0 an0 : Option Addr} {sl0 : Array (Option Value)} {oc0 kV0 dc0 pm0 cd0 ct0 : Value} {f0 : Addr}
    {od1 an1 : Option Addr} {sl1 : Array (Option Value)} {oc1 kV1 dc1 pm1 cd1 ct1 : Value} {f1 : Addr}
    {od2 an2 : Option Addr} {sl2 : Array (Option Value)} {oc2 kV2 dc2 pm2 cd2 ct2 : Value} {f2 : Addr}
    {od3 an3 : Option Addr} {sl3 : Array (Option Value)} {oc3 kV3 dc3 pm3 cd3 ct3 : Value} {f3 : Addr}
    {od4 an4 : Option Addr} {sl4 : Array (Option Value)} {oc4 kV4 dc4 pm4 cd4 ct4 : Value} {f4 : Addr}
    {od5 an5 : Option Addr} {sl5 : Array (Option Value)} {oc5 kV5 dc5 pm5 cd5 ct5 : Value} {f5 : Addr}
    {od6 an6 : Option Addr} {sl6 : Array (Option Value)} {oc6 kV6 dc6 pm6 cd6 ct6 : Value} {f6 : Addr}
    {od7 an7 : Option Addr} {sl7 : Array (Option Value)} {oc7 kV7 dc7 pm7 cd7 ct7 : Value} {f7 : Addr}
    {od8 an8 : Option Addr} {sl8 : Array (Option Value)} {oc8 kV8 dc8 pm8 cd8 ct8 : Value} {f8 : Addr}
    {od9 an9 : Option Addr} {sl9 : Array (Option Value)} {oc9 kV9 dc9 pm9 cd9 ct9 : Value} {f9 : Addr}
    {od10 an10 : Option Addr} {sl10 : Array (Option Value)} {oc10 kV10 dc10 pm10 cd10 ct10 : Value} {f10 : Addr}
    {od11 an11 : Option Addr} {sl11 : Array (Option Value)} {oc11 kV11 dc11 pm11 cd11 ct11 : Value} {f11 : Addr}
    {od12 an12 : Option Addr} {sl12 : Array (Option Value)} {oc12 kV12 dc12 pm12 cd12 ct12 : Value} {f12 : Addr}
    {od13 an13 : Option Addr} {sl13 : Array (Option Value)} {oc13 kV13 dc13 pm13 cd13 ct13 : Value} {f13 : Addr}
    {od14 an14 : Option Addr} {sl14 : Array (Option Value)} {oc14 kV14 dc14 pm14 cd14 ct14 : Value} {f14 : Addr}
    {od15 an15 : Option Addr} {sl15 : Array (Option Value)} {oc15 kV15 dc15 pm15 cd15 ct15 : Value} {f15 : Addr}
    {od16 an16 : Option Addr} {sl16 : Array (Option Value)} {oc16 kV16 dc16 pm16 cd16 ct16 : Value} {f16 : Addr}
    {od17 an17 : Option Addr} {sl17 : Array (Option Value)} {oc17 kV17 dc17 pm17 cd17 ct17 : Value} {f17 : Addr}
    {od18 an18 : Option Addr} {sl18 : Array (Option Value)} {oc18 kV18 dc18 pm18 cd18 ct18 : Value} {f18 : Addr}
    {od19 an19 : Option Addr} {sl19 : Array (Option Value)} {oc19 kV19 dc19 pm19 cd19 ct19 : Value} {f19 : Addr}
    {od20 an20 : Option Addr} {sl20 : Array (Option Value)} {oc20 kV20 dc20 pm20 cd20 ct20 : Value} {f20 : Addr}
    {od21 an21 : Option Addr} {sl21 : Array (Option Value)} {oc21 kV21 dc21 pm21 cd21 ct21 : Value} {f21 : Addr}
    {C_BadNumber : Addr}
    {C_BadPattern : Addr}
    {C_ShiftError : Addr}
    {C_TooMany : Addr}
    {odITooMany anITooMany : Option Addr} {slITooMany : Array (Option Value)} {ocITooMany kVITooMany dcITooMany pmITooMany cdITooMany ctITooMany : Value} {I_TooMany : Addr}
    {t_MOST_PATTERN : Tok}
    {t_MOST_PERIOD : Tok}
    {vs11 : Array Value} {ec11 : Value} {dd11 : Option Addr} {sm11 : Array (Option Value)} {c_need_pattern P_need_pattern : Addr}
    {vs12 : Array Value} {ec12 : Value} {dd12 : Option Addr} {sm12 : Array (Option Value)} {c_repeats P_repeats : Addr}
    {vs18 : Array Value} {ec18 : Value} {dd18 : Option Addr} {sm18 : Array (Option Value)} {c_simple_walks P_simple_walks : Addr}
    {vs21 : Array Value} {ec21 : Value} {dd21 : Option Addr} {sm21 : Array (Option Value)} {c_law P_law : Addr}
    (a0 : PySem.W.nsIn K mainGlobals "_law_alike" = some (some (.ref f0))) (l0 : K.lookup f0 = some ⟨oc0, od0, .func (PySem.W.fnOf "_law_alike" "_law_alike" (defArgs s_law_alike) (defBody s_law_alike) (defScope s_law_alike) .none kV0 dc0 pm0 an0 cd0 ct0), sl0⟩) (c0 : PySem.W.codeIn K cd0 "_law_alike" = true) (k0 : PySem.W.keepIn K (.ref f0) = true)
    (a1 : PySem.W.nsIn K mainGlobals "_law_has_band" = some (some (.ref f1))) (l1 : K.lookup f1 = some ⟨oc1, od1, .func (PySem.W.fnOf "_law_has_band" "_law_has_band" (defArgs s_law_has_band) (defBody s_law_has_band) (defScope s_law_has_band) .none kV1 dc1 pm1 an1 cd1 ct1), sl1⟩) (c1 : PySem.W.codeIn K cd1 "_law_has_band" = true) (k1 : PySem.W.keepIn K (.ref f1) = true)
    (a2 : PySem.W.nsIn K mainGlobals "_law_taken" = some (some (.ref f2))) (l2 : K.lookup f2 = some ⟨oc2, od2, .func (PySem.W.fnOf "_law_taken" "_law_taken" (defArgs s_law_taken) (defBody s_law_taken) (defScope s_law_taken) .none kV2 dc2 pm2 an2 cd2 ct2), sl2⟩) (c2 : PySem.W.codeIn K cd2 "_law_taken" = true) (k2 : PySem.W.keepIn K (.ref f2) = true)
    (a3 : PySem.W.nsIn K mainGlobals "_law_pattern" = some (some (.ref f3))) (l3 : K.lookup f3 = some ⟨oc3, od3, .func (PySem.W.fnOf "_law_pattern" "_law_pattern" (defArgs s_law_pattern) (defBody s_law_pattern) (defScope s_law_pattern) .none kV3 dc3 pm3 an3 cd3 ct3), sl3⟩) (c3 : PySem.W.codeIn K cd3 "_law_pattern" = true) (k3 : PySem.W.keepIn K (.ref f3) = true)
    (a4 : PySem.W.nsIn K mainGlobals "_law_next" = some (some (.ref f4))) (l4 : K.lookup f4 = some ⟨oc4, od4, .func (PySem.W.fnOf "_law_next" "_law_next" (defArgs s_law_next) (defBody s_law_next) (defScope s_law_next) .none kV4 dc4 pm4 an4 cd4 ct4), sl4⟩) (c4 : PySem.W.codeIn K cd4 "_law_next" = true) (k4 : PySem.W.keepIn K (.ref f4) = true)
    (a5 : PySem.W.nsIn K mainGlobals "_law_points" = some (some (.ref f5))) (l5 : K.lookup f5 = some ⟨oc5, od5, .func (PySem.W.fnOf "_law_points" "_law_points" (defArgs s_law_points) (defBody s_law_points) (defScope s_law_points) .none kV5 dc5 pm5 an5 cd5 ct5), sl5⟩) (c5 : PySem.W.codeIn K cd5 "_law_points" = true) (k5 : PySem.W.keepIn K (.ref f5) = true)
    (a6 : PySem.W.nsIn K mainGlobals "_law_told" = some (some (.ref f6))) (l6 : K.lookup f6 = some ⟨oc6, od6, .func (PySem.W.fnOf "_law_told" "_law_told" (defArgs s_law_told) (defBody s_law_told) (defScope s_law_told) .none kV6 dc6 pm6 an6 cd6 ct6), sl6⟩) (c6 : PySem.W.codeIn K cd6 "_law_told" = true) (k6 : PySem.W.keepIn K (.ref f6) = true)
    (a7 : PySem.W.nsIn K mainGlobals "covered" = some (some (.ref f7))) (l7 : K.lookup f7 = some ⟨oc7, od7, .func (PySem.W.fnOf "covered" "covered" (defArgs s_covered) (defBody s_covered) (defScope s_covered) .none kV7 dc7 pm7 an7 cd7 ct7), sl7⟩) (c7 : PySem.W.codeIn K cd7 "covered" = true) (k7 : PySem.W.keepIn K (.ref f7) = true)
    (a8 : PySem.W.nsIn K mainGlobals "has_band" = some (some (.ref f8))) (l8 : K.lookup f8 = some ⟨oc8, od8, .func (PySem.W.fnOf "has_band" "has_band" (defArgs s_has_band) (defBody s_has_band) (defScope s_has_band) .none kV8 dc8 pm8 an8 cd8 ct8), sl8⟩) (c8 : PySem.W.codeIn K cd8 "has_band" = true) (k8 : PySem.W.keepIn K (.ref f8) = true)
    (a9 : PySem.W.nsIn K mainGlobals "is_in" = some (some (.ref f9))) (l9 : K.lookup f9 = some ⟨oc9, od9, .func (PySem.W.fnOf "is_in" "is_in" (defArgs s_is_in) (defBody s_is_in) (defScope s_is_in) .none kV9 dc9 pm9 an9 cd9 ct9), sl9⟩) (c9 : PySem.W.codeIn K cd9 "is_in" = true) (k9 : PySem.W.keepIn K (.ref f9) = true)
    (a10 : PySem.W.nsIn K mainGlobals "need_number" = some (some (.ref f10))) (l10 : K.lookup f10 = some ⟨oc10, od10, .func (PySem.W.fnOf "need_number" "need_number" (defArgs s_need_number) (defBody s_need_number) (defScope s_need_number) .none kV10 dc10 pm10 an10 cd10 ct10), sl10⟩) (c10 : PySem.W.codeIn K cd10 "need_number" = true) (k10 : PySem.W.keepIn K (.ref f10) = true)
    (a11 : PySem.W.nsIn K mainGlobals "need_pattern" = some (some (.ref f11))) (l11 : K.lookup f11 = some ⟨oc11, od11, .func (PySem.W.fnOf "need_pattern" "need_pattern" (defArgs s_need_pattern) (defBody s_need_pattern) (defScope s_need_pattern) .none kV11 dc11 pm11 an11 cd11 ct11), sl11⟩) (c11 : PySem.W.codeIn K cd11 "need_pattern" = true) (k11 : PySem.W.keepIn K (.ref f11) = true)
    (a12 : PySem.W.nsIn K mainGlobals "repeats" = some (some (.ref f12))) (l12 : K.lookup f12 = some ⟨oc12, od12, .func (PySem.W.fnOf "repeats" "repeats" (defArgs s_repeats) (defBody s_repeats) (defScope s_repeats) .none kV12 dc12 pm12 an12 cd12 ct12), sl12⟩) (c12 : PySem.W.codeIn K cd12 "repeats" = true) (k12 : PySem.W.keepIn K (.ref f12) = true)
    (a13 : PySem.W.nsIn K mainGlobals "piece_beside" = some (some (.ref f13))) (l13 : K.lookup f13 = some ⟨oc13, od13, .func (PySem.W.fnOf "piece_beside" "piece_beside" (defArgs s_piece_beside) (defBody s_piece_beside) (defScope s_piece_beside) .none kV13 dc13 pm13 an13 cd13 ct13), sl13⟩) (c13 : PySem.W.codeIn K cd13 "piece_beside" = true) (k13 : PySem.W.keepIn K (.ref f13) = true)
    (a14 : PySem.W.nsIn K mainGlobals "step_beside" = some (some (.ref f14))) (l14 : K.lookup f14 = some ⟨oc14, od14, .func (PySem.W.fnOf "step_beside" "step_beside" (defArgs s_step_beside) (defBody s_step_beside) (defScope s_step_beside) .none kV14 dc14 pm14 an14 cd14 ct14), sl14⟩) (c14 : PySem.W.codeIn K cd14 "step_beside" = true) (k14 : PySem.W.keepIn K (.ref f14) = true)
    (a15 : PySem.W.nsIn K mainGlobals "walk_beside" = some (some (.ref f15))) (l15 : K.lookup f15 = some ⟨oc15, od15, .func (PySem.W.fnOf "walk_beside" "walk_beside" (defArgs s_walk_beside) (defBody s_walk_beside) (defScope s_walk_beside) .none kV15 dc15 pm15 an15 cd15 ct15), sl15⟩) (c15 : PySem.W.codeIn K cd15 "walk_beside" = true) (k15 : PySem.W.keepIn K (.ref f15) = true)
    (a16 : PySem.W.nsIn K mainGlobals "beside_walks" = some (some (.ref f16))) (l16 : K.lookup f16 = some ⟨oc16, od16, .func (PySem.W.fnOf "beside_walks" "beside_walks" (defArgs s_beside_walks) (defBody s_beside_walks) (defScope s_beside_walks) .none kV16 dc16 pm16 an16 cd16 ct16), sl16⟩) (c16 : PySem.W.codeIn K cd16 "beside_walks" = true) (k16 : PySem.W.keepIn K (.ref f16) = true)
    (a17 : PySem.W.nsIn K mainGlobals "closed_walks" = some (some (.ref f17))) (l17 : K.lookup f17 = some ⟨oc17, od17, .func (PySem.W.fnOf "closed_walks" "closed_walks" (defArgs s_closed_walks) (defBody s_closed_walks) (defScope s_closed_walks) .none kV17 dc17 pm17 an17 cd17 ct17), sl17⟩) (c17 : PySem.W.codeIn K cd17 "closed_walks" = true) (k17 : PySem.W.keepIn K (.ref f17) = true)
    (a18 : PySem.W.nsIn K mainGlobals "simple_walks" = some (some (.ref f18))) (l18 : K.lookup f18 = some ⟨oc18, od18, .func (PySem.W.fnOf "simple_walks" "simple_walks" (defArgs s_simple_walks) (defBody s_simple_walks) (defScope s_simple_walks) .none kV18 dc18 pm18 an18 cd18 ct18), sl18⟩) (c18 : PySem.W.codeIn K cd18 "simple_walks" = true) (k18 : PySem.W.keepIn K (.ref f18) = true)
    (a19 : PySem.W.nsIn K mainGlobals "points_of" = some (some (.ref f19))) (l19 : K.lookup f19 = some ⟨oc19, od19, .func (PySem.W.fnOf "points_of" "points_of" (defArgs s_points_of) (defBody s_points_of) (defScope s_points_of) .none kV19 dc19 pm19 an19 cd19 ct19), sl19⟩) (c19 : PySem.W.codeIn K cd19 "points_of" = true) (k19 : PySem.W.keepIn K (.ref f19) = true)
    (a20 : PySem.W.nsIn K mainGlobals "count_cycles" = some (some (.ref f20))) (l20 : K.lookup f20 = some ⟨oc20, od20, .func (PySem.W.fnOf "count_cycles" "count_cycles" (defArgs s_count_cycles) (defBody s_count_cycles) (defScope s_count_cycles) .none kV20 dc20 pm20 an20 cd20 ct20), sl20⟩) (c20 : PySem.W.codeIn K cd20 "count_cycles" = true) (k20 : PySem.W.keepIn K (.ref f20) = true)
    (a21 : PySem.W.nsIn K mainGlobals "law" = some (some (.ref f21))) (l21 : K.lookup f21 = some ⟨oc21, od21, .func (PySem.W.fnOf "law" "law" (defArgs s_law) (defBody s_law) (defScope s_law) .none kV21 dc21 pm21 an21 cd21 ct21), sl21⟩) (c21 : PySem.W.codeIn K cd21 "law" = true) (k21 : PySem.W.keepIn K (.ref f21) = true)
    (z_abs : PySem.W.nsIn K mainGlobals "abs" = some none)
    (z_all : PySem.W.nsIn K mainGlobals "all" = some none)
    (z_any : PySem.W.nsIn K mainGlobals "any" = some none)
    (z_bool : PySem.W.nsIn K mainGlobals "bool" = some none)
    (z_int : PySem.W.nsIn K mainGlobals "int" = some none)
    (z_isinstance : PySem.W.nsIn K mainGlobals "isinstance" = some none)
    (z_len : PySem.W.nsIn K mainGlobals "len" = some none)
    (z_list : PySem.W.nsIn K mainGlobals "list" = some none)
    (z_max : PySem.W.nsIn K mainGlobals "max" = some none)
    (z_min : PySem.W.nsIn K mainGlobals "min" = some none)
    (z_range : PySem.W.nsIn K mainGlobals "range" = some none)
    (z_sorted : PySem.W.nsIn K mainGlobals "sorted" = some none)
    (z_str : PySem.W.nsIn K mainGlobals "str" = some none)
    (z_sum : PySem.W.nsIn K mainGlobals "sum" = some none)
    (z_tuple : PySem.W.nsIn K mainGlobals "tuple" = some none)
    (xa_BadNumber : PySem.W.nsIn K mainGlobals "BadNumber" = some (some (.ref C_BadNumber)))
    (xa_BadPattern : PySem.W.nsIn K mainGlobals "BadPattern" = some (some (.ref C_BadPattern)))
    (xa_ShiftError : PySem.W.nsIn K mainGlobals "ShiftError" = some (some (.ref C_ShiftError)))
    (xa_TooMany : PySem.W.nsIn K mainGlobals "TooMany" = some (some (.ref C_TooMany)))
    (xk_BadNumber : PySem.W.keepIn K (.ref C_BadNumber) = true)
    (xe_BadNumber : PySem.W.excIn K C_BadNumber HandSPX.veTail "ValueError.__new__" = true)
    (xs_BadNumber : PySem.W.subIn K (.ref C_BadNumber) (.type "BaseException") = some true)
    (xt_BadNumber : PySem.W.typeIn K (.ref C_BadNumber) = some (.type "type"))
    (xm_BadNumber : PySem.W.exmOne K (.ref C_BadNumber) (.ref C_ShiftError) = some true)
    (xu_BadNumber : excB K C_BadNumber = true)
    (xq_BadNumber_TooMany : PySem.W.kitOne K (.ref C_BadNumber) (.ref C_TooMany) = some (bo_law_told "BadNumber" "TooMany"))
    (xk_BadPattern : PySem.W.keepIn K (.ref C_BadPattern) = true)
    (xe_BadPattern : PySem.W.excIn K C_BadPattern HandSPX.veTail "ValueError.__new__" = true)
    (xs_BadPattern : PySem.W.subIn K (.ref C_BadPattern) (.type "BaseException") = some true)
    (xt_BadPattern : PySem.W.typeIn K (.ref C_BadPattern) = some (.type "type"))
    (xm_BadPattern : PySem.W.exmOne K (.ref C_BadPattern) (.ref C_ShiftError) = some true)
    (xu_BadPattern : excB K C_BadPattern = true)
    (xq_BadPattern_TooMany : PySem.W.kitOne K (.ref C_BadPattern) (.ref C_TooMany) = some (bo_law_told "BadPattern" "TooMany"))
    (xi_TooMany : PySem.W.findIn K (.ref C_TooMany) "__init__" = some (some (.ref I_TooMany)))
    (xl_TooMany : K.lookup I_TooMany = some ⟨ocITooMany, odITooMany, .func (PySem.W.fnOf "__init__" "TooMany.__init__" (defArgs si_TooMany) (defBody si_TooMany) (defScope si_TooMany) .none kVITooMany dcITooMany pmITooMany anITooMany cdITooMany ctITooMany), slITooMany⟩)
    (xd_TooMany : PySem.W.codeIn K cdITooMany "TooMany.__init__" = true)
    (xp_TooMany : PySem.W.keepIn K (.ref I_TooMany) = true)
    (xj_TooMany : PySem.W.typeIn K (.ref I_TooMany) = some (.type "function"))
    (xo_TooMany : oexB K C_TooMany "most" = true)
    (xm_TooMany : PySem.W.exmOne K (.ref C_TooMany) (.ref C_ShiftError) = some true)
    (xu_TooMany : excB K C_TooMany = true)
    (xq_TooMany_TooMany : PySem.W.kitOne K (.ref C_TooMany) (.ref C_TooMany) = some (bo_law_told "TooMany" "TooMany"))
    (y_MOST_PATTERN : PySem.W.nsIn K mainGlobals "MOST_PATTERN" = some (some (.int 9 t_MOST_PATTERN)))
    (y_MOST_PERIOD : PySem.W.nsIn K mainGlobals "MOST_PERIOD" = some (some (.int 60 t_MOST_PERIOD)))
    (d11 : cd11 = .ref c_need_pattern) (m11 : K.lookup c_need_pattern = some ⟨ec11, dd11, .fields vs11, sm11⟩) (p11 : vs11[11]? = some (.ref P_need_pattern)) (n11 : K.lookup P_need_pattern = none) (q11 : ((recsOf q).any fun d => d.name == "need_pattern") = true)
    (d12 : cd12 = .ref c_repeats) (m12 : K.lookup c_repeats = some ⟨ec12, dd12, .fields vs12, sm12⟩) (p12 : vs12[11]? = some (.ref P_repeats)) (n12 : K.lookup P_repeats = none) (q12 : ((recsOf q).any fun d => d.name == "repeats") = true)
    (d18 : cd18 = .ref c_simple_walks) (m18 : K.lookup c_simple_walks = some ⟨ec18, dd18, .fields vs18, sm18⟩) (p18 : vs18[11]? = some (.ref P_simple_walks)) (n18 : K.lookup P_simple_walks = none) (q18 : ((recsOf q).any fun d => d.name == "simple_walks") = true)
    (d21 : cd21 = .ref c_law) (m21 : K.lookup c_law = some ⟨ec21, dd21, .fields vs21, sm21⟩) (p21 : vs21[11]? = some (.ref P_law)) (n21 : K.lookup P_law = none) (q21 : ((recsOf q).any fun d => d.name == "law") = true)
    (nu : [P_need_pattern, P_repeats, P_simple_walks, P_law].Nodup)
    : LamX.LawAtS l w K CX0 14 63 "script" mg fa h := by
  have e := hfa.symm.trans (PySem.W.mg_of X G a21)
  cases e
  have F0 := fun_mk (st := s_law_alike) l0 c0 k0
  have B0 := F0.binds (ps := ["found", "due"]) fun _ _ _ _ _ _ us hl => match us, hl with | [_, _], _ => rfl
  have F1 := fun_mk (st := s_law_has_band) l1 c1 k1
  have B1 := F1.binds (ps := ["pattern"]) fun _ _ _ _ _ _ us hl => match us, hl with | [_], _ => rfl
  have F2 := fun_mk (st := s_law_taken) l2 c2 k2
  have B2 := F2.binds (ps := ["row", "many"]) fun _ _ _ _ _ _ us hl => match us, hl with | [_, _], _ => rfl
  have F3 := fun_mk (st := s_law_pattern) l3 c3 k3
  have B3 := F3.binds (ps := ["row", "least", "most"]) fun _ _ _ _ _ _ us hl => match us, hl with | [_, _, _], _ => rfl
  have F4 := fun_mk (st := s_law_next) l4 c4 k4
  have B4 := F4.binds (ps := ["pattern", "top", "bottom"]) fun _ _ _ _ _ _ us hl => match us, hl with | [_, _, _], _ => rfl
  have F5 := fun_mk (st := s_law_points) l5 c5 k5
  have B5 := F5.binds (ps := ["pattern", "period"]) fun _ _ _ _ _ _ us hl => match us, hl with | [_, _], _ => rfl
  have F6 := fun_mk (st := s_law_told) l6 c6 k6
  have B6 := F6.binds (ps := ["work"]) fun _ _ _ _ _ _ us hl => match us, hl with | [_], _ => rfl
  have F7 := fun_mk (st := s_covered) l7 c7 k7
  have B7 := F7.binds (ps := ["pattern", "piece"]) fun _ _ _ _ _ _ us hl => match us, hl with | [_, _], _ => rfl
  have F8 := fun_mk (st := s_has_band) l8 c8 k8
  have B8 := F8.binds (ps := ["pattern"]) fun _ _ _ _ _ _ us hl => match us, hl with | [_], _ => rfl
  have F9 := fun_mk (st := s_is_in) l9 c9 k9
  have B9 := F9.binds (ps := ["value", "least", "most"]) fun _ _ _ _ _ _ us hl => match us, hl with | [_, _, _], _ => rfl
  have F10 := fun_mk (st := s_need_number) l10 c10 k10
  have B10 := F10.binds (ps := ["number", "least", "most"]) fun _ _ _ _ _ _ us hl => match us, hl with | [_, _, _], _ => rfl
  have F11 := fun_mk (st := s_need_pattern) l11 c11 k11
  have B11 := F11.binds (ps := ["pattern"]) fun _ _ _ _ _ _ us hl => match us, hl with | [_], _ => rfl
  have F12 := fun_mk (st := s_repeats) l12 c12 k12
  have B12 := F12.binds (ps := ["walk"]) fun _ _ _ _ _ _ us hl => match us, hl with | [_], _ => rfl
  have F13 := fun_mk (st := s_piece_beside) l13 c13 k13
  have B13 := F13.binds (ps := ["beside"]) fun _ _ _ _ _ _ us hl => match us, hl with | [_], _ => rfl
  have F14 := fun_mk (st := s_step_beside) l14 c14 k14
  have B14 := F14.binds (ps := ["pattern", "beside"]) fun _ _ _ _ _ _ us hl => match us, hl with | [_, _], _ => rfl
  have F15 := fun_mk (st := s_walk_beside) l15 c15 k15
  have B15 := F15.binds (ps := ["pattern", "beside"]) fun _ _ _ _ _ _ us hl => match us, hl with | [_, _], _ => rfl
  have F16 := fun_mk (st := s_beside_walks) l16 c16 k16
  have B16 := F16.binds (ps := ["pattern", "period"]) fun _ _ _ _ _ _ us hl => match us, hl with | [_, _], _ => rfl
  have F17 := fun_mk (st := s_closed_walks) l17 c17 k17
  have B17 := F17.binds (ps := ["pattern", "length"]) fun _ _ _ _ _ _ us hl => match us, hl with | [_, _], _ => rfl
  have F18 := fun_mk (st := s_simple_walks) l18 c18 k18
  have B18 := F18.binds (ps := ["pattern", "period"]) fun _ _ _ _ _ _ us hl => match us, hl with | [_, _], _ => rfl
  have F19 := fun_mk (st := s_points_of) l19 c19 k19
  have B19 := F19.binds (ps := ["pattern", "period"]) fun _ _ _ _ _ _ us hl => match us, hl with | [_, _], _ => rfl
  have F20 := fun_mk (st := s_count_cycles) l20 c20 k20
  have B20 := F20.binds (ps := ["pattern", "period"]) fun _ _ _ _ _ _ us hl => match us, hl with | [_, _], _ => rfl
  have F21 := fun_mk (st := s_law) l21 c21 k21
  have B21 := F21.binds (ps := ["script"]) fun _ _ _ _ _ _ us hl => match us, hl with | [_], _ => rfl
  have FI_TooMany := fun_mk (st := si_TooMany) xl_TooMany xd_TooMany xp_TooMany
  have BI_TooMany := FI_TooMany.binds (ps := ["self", "most"]) fun _ _ _ _ _ _ us hl => match us, hl with | [_, _], _ => rfl
  have T11 := tab_of (x := "need_pattern") X R q11 (PySem.W.mg_of X G a11) l11 (show cd11 = .ref c_need_pattern from d11) m11 p11
  have T12 := tab_of (x := "repeats") X R q12 (PySem.W.mg_of X G a12) l12 (show cd12 = .ref c_repeats from d12) m12 p12
  have T18 := tab_of (x := "simple_walks") X R q18 (PySem.W.mg_of X G a18) l18 (show cd18 = .ref c_simple_walks from d18) m18 p18
  have T21 := tab_of (x := "law") X R q21 (PySem.W.mg_of X G a21) l21 (show cd21 = .ref c_law from d21) m21 p21
  refine ⟨PySem.W.fnOf "law" "law" (defArgs s_law) (defBody s_law) (defScope s_law) .none kV21 dc21 pm21 an21 cd21 ct21, [(c_need_pattern, P_need_pattern), (c_repeats, P_repeats), (c_simple_walks, P_simple_walks), (c_law, P_law)], spD K ([(P_need_pattern, none), (P_repeats, none), (P_simple_walks, none), (P_law, some (("law.<locals>.<lambda>" : String) : Str))], []) F_law, ?_, ?_, ?_, fun s v => .of_eq rfl, fun H a ns hl _ hH hS => law_spT (hlaw ns hl) rfl (fun P hP => ?_) (uq_of (L := (([(P_need_pattern, none), (P_repeats, none), (P_simple_walks, none), (P_law, some (("law.<locals>.<lambda>" : String) : Str))], []) : TabsT).1) nu) hS, fun base _ _ TB => hc_law ⟨(tabB_of (TB (c_need_pattern, P_need_pattern) (by simp))), (by simp), (show cd11 = .ref c_need_pattern from d11), (tabB_of (TB (c_repeats, P_repeats) (by simp))), (by simp), (show cd12 = .ref c_repeats from d12), (tabB_of (TB (c_simple_walks, P_simple_walks) (by simp))), (by simp), (show cd18 = .ref c_simple_walks from d18), (TB (c_law, P_law) (by simp)), (by simp), (show cd21 = .ref c_law from d21), PySem.W.mg_none_of X G z_abs, PySem.W.mg_none_of X G z_all, PySem.W.mg_none_of X G z_any, PySem.W.mg_none_of X G z_bool, PySem.W.mg_none_of X G z_int, PySem.W.mg_none_of X G z_isinstance, PySem.W.mg_none_of X G z_len, PySem.W.mg_none_of X G z_list, PySem.W.mg_none_of X G z_max, PySem.W.mg_none_of X G z_min, PySem.W.mg_none_of X G z_range, PySem.W.mg_none_of X G z_sorted, PySem.W.mg_none_of X G z_str, PySem.W.mg_none_of X G z_sum, PySem.W.mg_none_of X G z_tuple, PySem.W.mg_of X G y_MOST_PATTERN, ⟨_, rfl⟩, PySem.W.mg_of X G y_MOST_PERIOD, ⟨_, rfl⟩, PySem.W.mg_of X G xa_BadNumber, ⟨PySem.W.mg_of X G xa_BadNumber, xk_BadNumber, xe_BadNumber, xs_BadNumber, xt_BadNumber⟩, xm_BadNumber, xu_BadNumber, xq_BadNumber_TooMany, PySem.W.mg_of X G xa_BadPattern, ⟨PySem.W.mg_of X G xa_BadPattern, xk_BadPattern, xe_BadPattern, xs_BadPattern, xt_BadPattern⟩, xm_BadPattern, xu_BadPattern, xq_BadPattern_TooMany, PySem.W.mg_of X G xa_ShiftError, PySem.W.mg_of X G xa_TooMany, (oexC_of xo_TooMany).1, (oexC_of xo_TooMany).2, xi_TooMany, xj_TooMany, FI_TooMany, BI_TooMany, xm_TooMany, xu_TooMany, xq_TooMany_TooMany, PySem.W.mg_of X G a0, F0, F0.kp, B0, PySem.W.mg_of X G a1, F1, F1.kp, B1, PySem.W.mg_of X G a2, F2, F2.kp, B2, PySem.W.mg_of X G a3, F3, F3.kp, B3, PySem.W.mg_of X G a4, F4, F4.kp, B4, PySem.W.mg_of X G a5, F5, F5.kp, B5, PySem.W.mg_of X G a6, F6, F6.kp, B6, PySem.W.mg_of X G a7, F7, F7.kp, B7, PySem.W.mg_of X G a8, F8, F8.kp, B8, PySem.W.mg_of X G a9, F9, F9.kp, B9, PySem.W.mg_of X G a10, F10, F10.kp, B10, PySem.W.mg_of X G a11, F11, F11.kp, B11, PySem.W.mg_of X G a12, F12, F12.kp, B12, PySem.W.mg_of X G a13, F13, F13.kp, B13, PySem.W.mg_of X G a14, F14, F14.kp, B14, PySem.W.mg_of X G a15, F15, F15.kp, B15, PySem.W.mg_of X G a16, F16, F16.kp, B16, PySem.W.mg_of X G a17, F17, F17.kp, B17, PySem.W.mg_of X G a18, F18, F18.kp, B18, PySem.W.mg_of X G a19, F19, F19.kp, B19, PySem.W.mg_of X G a20, F20, F20.kp, B20, PySem.W.mg_of X G a21, F21, F21.kp, B21⟩⟩
  · simp only [List.mem_cons, List.not_mem_nil, or_false, forall_eq_or_imp, forall_eq]
    exact ⟨T11.1, T12.1, T18.1, T21.1⟩
  · simp only [List.mem_cons, List.not_mem_nil, or_false, forall_eq_or_imp, forall_eq]
    exact ⟨n11, n12, n18, n21⟩
  · simp only [List.mem_cons, List.not_mem_nil, or_false, forall_eq_or_imp, forall_eq]
    exact ⟨T11.2, T12.2, T18.2, T21.2⟩
  · simp only [List.mem_cons, List.not_mem_nil, or_false, forall_eq_or_imp, forall_eq] at hH
    simp only [List.mem_cons, List.not_mem_nil, or_false] at hP
    rcases hP with rfl | rfl | rfl | rfl
    · exact hH.1
    · exact hH.2.1
    · exact hH.2.2.1
    · exact hH.2.2.2
end Sh.K65

/-! How the laws draw a pattern: one of a list of all. Plain Lean. -/
namespace Sh
open PySem
def zs (xs : List Int) : List D := xs.map PyData.int
theorem zs_len (xs : List Int) : (zs xs).length = xs.length := by simp [zs]
theorem sSeq_run {a b : Sx} {e e1 : Ev} (h : a e = some (.nx e1)) : sSeq a b e = b e1 := by
  simp only [sSeq, h, Option.bind_some]
theorem runDef_rt {n np : Nat} {lk : Nat → Bool} {body : Sx} {os : List O} {r : O} {e : Ev} (hl : os.length = np) (h : body (os.map some ++ List.replicate (n - np) none) = some (.rt r e)) : runDef n np lk body os = some (r, fins lk e np) := by
  unfold runDef
  rw [if_pos hl, h]
  rfl
theorem ix_nat {n k : Nat} (h : k < n) : L2.ixN n (k : Int) = some k := by
  have h1 : (k : Int) < (n : Int) := by omega
  simp [L2.ixN, h1]
theorem at_nat {xs : List Int} {k : Nat} (h : k < xs.length) : L2.atI (zs xs) (k : Int) = some (.int (xs.getD k 0)) := by
  unfold L2.atI
  rw [zs_len, ix_nat h]
  simp [zs, h]
theorem set_zs (xs : List Int) (k : Nat) (l : Int) : (zs xs).set k (.int l) = zs (xs.set k l) := by simp [zs, List.map_set]
/-- what is left, where we are, what is found -/
abbrev PSt := List Int × Int × List Int
def stepP (s : PSt) (d : Nat) : PSt := (s.1.filter (· != s.1.getD d 0), s.1.getD d 0, s.2.2.set s.2.1.toNat (s.1.getD d 0))
def reach (n : Nat) : Nat → List PSt
  | 0 => [((List.range (n - 1)).map (fun k => ((k + 1 : Nat) : Int)), 0, List.replicate n 0)]
  | t + 1 => (reach n t).flatMap fun s => (List.range s.1.length).map (stepP s)
def cycs (n : Nat) : List (List Int) := (reach n (n - 1)).map fun s => s.2.2.set s.2.1.toNat 0
def patB : Sx := (sSeq (sSet 8 (eOp2 gItem (pV (eVar 4)) (pV (eCall F_taken [some 0, none] (aOwn 0 (aCons (eFr (eOp1 gLen (pV (eVar 4)))) aNil))))))
  (sSeq (sSetF 4 (eComp [9] (iSeq (eVar 4)) (tName 9) (bOp2 gNe (pV (eVar 9)) (pV (eVar 8))) (eVar 9)))
  (sParN [oSub 6 (eVar 5), oName 5] (aCons (eVar 8) (aCons (eVar 8) aNil)))))
def B_pattern : Sx :=
  (sSeq (sSetF 3 (eOp2 gAdd (pV (eVar 1)) (pV (eCall F_taken [some 0, none] (aOwn 0 (aCons (eFr (eOp2 gAdd (pV (eOp2 gSub (pV (eVar 2)) (pV (eVar 1)))) (pV (eC (.int 1))))) aNil))))))
  (sSeq (sPar3 4 5 6 (eFr (eComp [9] (iRange2 (eC (.int 1)) (eVar 3)) (tName 9) bYes (eVar 9))) (eC (.int 0)) (eComp [9] (iRange (eVar 3)) (tName 9) bYes (eC (.int 0))))
  (sSeq (sFor (iRange (eOp2 gSub (pV (eVar 3)) (pV (eC (.int 1))))) (tName 7) patB)
  (sSeq (sSub 6 (eVar 5) (eC (.int 0)))
  (sRet (eOp1 gTuple (pS 6)))))))
def F_pattern : Fn := runDef 10 3 (fun i => [true, true, true].getD i false) B_pattern
/-- what stays true -/
structure PInv (n t : Nat) (s : PSt) : Prop where
  mem : s ∈ reach n t
  nd : s.1.Nodup
  lt : ∀ x ∈ s.1, 0 ≤ x ∧ x < n
  len : s.1.length + t + 1 = n
  here : 0 ≤ s.2.1 ∧ s.2.1 < n
  fl : s.2.2.length = n
theorem pinv_step {n t : Nat} {s : PSt} {d : Nat} (h : PInv n t s) (hd : d < s.1.length) : PInv n (t + 1) (stepP s d) := by
  have hm : s.1.getD d 0 ∈ s.1 := by
    rw [List.getD_eq_getElem?_getD, List.getElem?_eq_getElem hd]
    exact List.getElem_mem hd
  refine ⟨?_, h.nd.sublist List.filter_sublist, fun x hx => h.lt x (List.mem_filter.mp hx).1, ?_, h.lt _ hm, by simpa [stepP] using h.fl⟩
  · unfold reach
    exact List.mem_flatMap.mpr ⟨s, h.mem, List.mem_map.mpr ⟨d, List.mem_range.mpr hd, rfl⟩⟩
  · show (s.1.filter (· != s.1.getD d 0)).length + (t + 1) + 1 = n
    have e := h.nd.erase_eq_filter (s.1.getD d 0)
    rw [← e, List.length_erase_of_mem hm]
    have := h.len
    omega
theorem filt_zs (l : Int) (xs : List Int) : ((zs xs).filter (fun d => match d with | .int i => i != l | _ => false)).map id = zs (xs.filter (· != l)) := by
  simp [zs, List.filter_map]
  rfl
theorem pat_step {ns : List Int} {o : O} {n t : Nat} {s : PSt} {x1 x2 x3 x7 x8 : Option O} (h : Rw ns o) (hi : PInv n t s) (ht : t + 1 < n) (hn : n ≤ 1000) :
    ∃ d o' y8, d < s.1.length ∧ Rw ns o' ∧ patB [some o, x1, x2, x3, some (.d (.list (zs s.1))), some (.d (.int s.2.1)), some (.l (zs s.2.2)), x7, x8, none] =
      some (.nx [some o', x1, x2, x3, some (.d (.list (zs (stepP s d).1))), some (.d (.int (stepP s d).2.1)), some (.l (zs (stepP s d).2.2)), x7, y8, none]) := by
  obtain ⟨left, here, found⟩ := s
  have hlen := hi.len
  have hhere := hi.here
  have hfl := hi.fl
  simp only at hlen hhere hfl
  obtain ⟨v, o', e, p, q, h'⟩ := taken_ok h (m := (left.length : Int)) (by omega) (by omega)
  obtain ⟨d, rfl⟩ : ∃ d : Nat, v = (d : Int) := ⟨v.toNat, by omega⟩
  obtain ⟨k, rfl⟩ : ∃ k : Nat, here = (k : Int) := ⟨here.toNat, by omega⟩
  have hd : d < left.length := by omega
  have a1 := at_nat hd
  refine ⟨d, o', some (.d (.int (left.getD d 0))), hd, h', ?_⟩
  have cl : compLoop [9] (tName 9) (bOp2 gNe (pV (eVar 9)) (pV (eVar 8))) (eVar 9) (zs left) [some o', x1, x2, x3, some (.d (.list (zs left))), some (.d (.int k)), some (.l (zs found)), x7, some (.d (.int (left.getD d 0))), none] =
      some (zs (left.filter (· != left.getD d 0)), [some o', x1, x2, x3, some (.d (.list (zs left))), some (.d (.int k)), some (.l (zs found)), x7, some (.d (.int (left.getD d 0))), none]) := by
    rw [compLoop_pure (fun d' => match d' with | .int i => i != left.getD d 0 | _ => false) id, filt_zs]
    intro x hx
    obtain ⟨i, _, rfl⟩ := List.mem_map.mp hx
    refine ⟨[some o', x1, x2, x3, some (.d (.list (zs left))), some (.d (.int k)), some (.l (zs found)), x7, some (.d (.int (left.getD d 0))), some (.d (.int i))], [some o', x1, x2, x3, some (.d (.list (zs left))), some (.d (.int k)), some (.l (zs found)), x7, some (.d (.int (left.getD d 0))), some (.d (.int i))], rfl, ?_, by simp, fun _ => ⟨.d (.int i), [some o', x1, x2, x3, some (.d (.list (zs left))), some (.d (.int k)), some (.l (zs found)), x7, some (.d (.int (left.getD d 0))), some (.d (.int i))], rfl, rfl, by simp⟩⟩
    simp [shaped_int, eqv_int, bne]
  have i1 : L2.ixN (zs found).length (k : Int) = some k := by rw [zs_len]; exact ix_nat (by omega)
  have hz := set_zs found k (left.getD d 0)
  have hl6 : (zs left).length ≤ 1000000 := by rw [zs_len]; omega
  have hle : (zs left).length = left.length := zs_len left
  have b1 : sSet 8 (eOp2 gItem (pV (eVar 4)) (pV (eCall F_taken [some 0, none] (aOwn 0 (aCons (eFr (eOp1 gLen (pV (eVar 4)))) aNil))))) [some o, x1, x2, x3, some (.d (.list (zs left))), some (.d (.int k)), some (.l (zs found)), x7, x8, none] =
      some (.nx [some o', x1, x2, x3, some (.d (.list (zs left))), some (.d (.int k)), some (.l (zs found)), x7, some (.d (.int (left.getD d 0))), none]) := by
    simp [hle, e, a1]
  unfold patB
  rw [sSeq_run b1]
  obtain ⟨lv, hlv⟩ : ∃ lv, left.getD d 0 = lv := ⟨_, rfl⟩
  rw [hlv] at cl hz ⊢
  have b2 : sSetF 4 (eComp [9] (iSeq (eVar 4)) (tName 9) (bOp2 gNe (pV (eVar 9)) (pV (eVar 8))) (eVar 9)) [some o', x1, x2, x3, some (.d (.list (zs left))), some (.d (.int k)), some (.l (zs found)), x7, some (.d (.int lv)), none] =
      some (.nx [some o', x1, x2, x3, some (.d (.list (zs (left.filter (· != lv))))), some (.d (.int k)), some (.l (zs found)), x7, some (.d (.int lv)), none]) := by
    unfold sSetF eComp
    show ((if (zs left).length ≤ 1000000 ∧ _ then _ else none : Option (O × Ev)).bind _) = _
    rw [if_pos ⟨hl6, rfl⟩]
    show ((Option.bind (compLoop [9] (tName 9) (bOp2 gNe (pV (eVar 9)) (pV (eVar 8))) (eVar 9) (zs left) [some o', x1, x2, x3, some (.d (.list (zs left))), some (.d (.int k)), some (.l (zs found)), x7, some (.d (.int lv)), none]) _).bind _) = _
    rw [cl]
    rfl
  rw [sSeq_run b2]
  have hk : ((k : Int)).toNat = k := by omega
  have e1 : stepP (left, (k : Int), found) d = (left.filter (· != left.getD d 0), left.getD d 0, found.set k (left.getD d 0)) := by
    simp only [stepP, hk]
  rw [e1, hlv]
  simp [i1, hz]
theorem pat_loop {ns : List Int} {n : Nat} {x1 x2 x3 : Option O} (hn : n ≤ 1000) : ∀ (ds : List D) (t : Nat) (s : PSt) (o : O) (x7 x8 : Option O), Rw ns o → PInv n t s → t + ds.length + 1 = n →
    ∃ s' o' y7 y8, PInv n (n - 1) s' ∧ Rw ns o' ∧ forLoop (tName 7) patB ds [some o, x1, x2, x3, some (.d (.list (zs s.1))), some (.d (.int s.2.1)), some (.l (zs s.2.2)), x7, x8, none] =
      some (.nx [some o', x1, x2, x3, some (.d (.list (zs s'.1))), some (.d (.int s'.2.1)), some (.l (zs s'.2.2)), y7, y8, none])
  | [], t, s, o, x7, x8, h, hi, ht => by
    obtain rfl : t = n - 1 := by simp at ht; omega
    exact ⟨s, o, x7, x8, hi, h, rfl⟩
  | x :: ds, t, s, o, x7, x8, h, hi, ht => by
    rw [List.length_cons] at ht
    obtain ⟨d, o1, y8, hd, h1, e1⟩ := pat_step (x1 := x1) (x2 := x2) (x3 := x3) (x7 := some (.d x)) (x8 := x8) h hi (by omega) hn
    obtain ⟨s', o', z7, z8, g1, g2, g3⟩ := pat_loop (x1 := x1) (x2 := x2) (x3 := x3) hn ds (t + 1) (stepP s d) o1 (some (.d x)) y8 h1 (pinv_step hi hd) (by omega)
    refine ⟨s', o', z7, z8, g1, g2, ?_⟩
    unfold forLoop
    show Option.bind (some [some o, x1, x2, x3, some (.d (.list (zs s.1))), some (.d (.int s.2.1)), some (.l (zs s.2.2)), some (.d x), x8, none]) _ = _
    rw [Option.bind_some, e1, Option.bind_some]
    exact g3
theorem pinv_zero {n : Nat} (h : 1 ≤ n) : PInv n 0 ((List.range (n - 1)).map (fun k => ((k + 1 : Nat) : Int)), 0, List.replicate n 0) := by
  refine ⟨by unfold reach; simp, ?_, fun x hx => ?_, by simp; omega, by simp; omega, by simp⟩
  · simp only [List.Nodup, List.pairwise_map]
    exact (List.nodup_range (n := n - 1)).imp fun {a b} hab => by omega
  · obtain ⟨k, hk, rfl⟩ := List.mem_map.mp hx
    have := List.mem_range.mp hk
    omega
def patsN (a b : Nat) : List (List Int) := (List.range (b + 1 - a)).flatMap fun k => cycs (a + k)
theorem comp_id {e : Ev} {own : List Nat} {i : Nat} (ds : List D) (hw : ∀ x : D, wipeE (e.set i (some (.d x))) own = e) (hs : ∀ x : D, slot (e.set i (some (.d x))) i = some (.d x)) : compLoop own (tName i) bYes (eVar i) ds e = some (ds, e) := by
  rw [compLoop_pure (fun _ => true) id]
  · rw [List.filter_eq_self.mpr (by simp), List.map_id]
  · intro x hx
    exact ⟨e.set i (some (.d x)), e.set i (some (.d x)), rfl, rfl, by simp, fun _ => ⟨.d x, e.set i (some (.d x)), by unfold eVar; rw [hs x], rfl, hw x⟩⟩
theorem comp_zero {e : Ev} {own : List Nat} {i : Nat} (n : Nat) (hw : ∀ x : D, wipeE (e.set i (some (.d x))) own = e) : compLoop own (tName i) bYes (eC (.int 0)) (rangeD 0 (n : Int)) e = some (zs (List.replicate n 0), e) := by
  rw [compLoop_pure (fun _ => true) (fun _ => .int 0)]
  · rw [List.filter_eq_self.mpr (by simp), rangeD_zero, List.map_map]
    have : ((fun x : D => PyData.int 0) ∘ fun k : Nat => PyData.int (k : Int)) = fun _ => PyData.int 0 := rfl
    rw [this, List.map_const']
    simp [zs]
  · intro x hx
    exact ⟨e.set i (some (.d x)), e.set i (some (.d x)), rfl, rfl, by simp, fun _ => ⟨_, _, rfl, rfl, hw x⟩⟩
theorem rangeD_one (n : Nat) : rangeD 1 (n : Int) = zs ((List.range (n - 1)).map (fun k => ((k + 1 : Nat) : Int))) := by
  unfold rangeD zs
  rw [List.map_map, show ((n : Int) - 1).toNat = n - 1 by omega]
  apply List.map_congr_left
  intro k _
  show PyData.int (1 + (k : Int)) = PyData.int ((k + 1 : Nat) : Int)
  congr 1
  omega
theorem pattern_ok {ns : List Int} {o : O} {a b : Nat} (h : Rw ns o) (h1 : 1 ≤ a) (h2 : a ≤ b) (h3 : b ≤ 1000) :
    ∃ p o', F_pattern [o, .d (.int a), .d (.int b)] = some (.d (.tuple (zs p)), [some o', some (.d (.int a)), some (.d (.int b))]) ∧ p ∈ patsN a b ∧ Rw ns o' := by
  obtain ⟨v, o1, e1, p, q, r1⟩ := taken_ok h (m := (b : Int) - a + 1) (by omega) (by omega)
  obtain ⟨d, rfl⟩ : ∃ d : Nat, v = (d : Int) := ⟨v.toNat, by omega⟩
  obtain ⟨n, hn⟩ : ∃ n : Nat, n = a + d := ⟨_, rfl⟩
  have hn1 : (a : Int) + (d : Int) = (n : Int) := by omega
  have hz := pinv_zero (n := n) (by omega)
  obtain ⟨s, o2, y7, y8, g1, g2, g3⟩ := pat_loop (x1 := some (.d (.int a))) (x2 := some (.d (.int b))) (x3 := some (.d (.int n))) (n := n) (by omega) (rangeD 0 ((n - 1 : Nat) : Int)) 0 _ o1 none none r1 hz (by rw [rangeD_zero]; simp; omega)
  have hh := g1.here
  have hfl := g1.fl
  obtain ⟨k, hk⟩ : ∃ k : Nat, s.2.1 = (k : Int) := ⟨s.2.1.toNat, by omega⟩
  refine ⟨s.2.2.set s.2.1.toNat 0, o2, ?_, ?_, g2⟩
  · have b1 : sSetF 3 (eOp2 gAdd (pV (eVar 1)) (pV (eCall F_taken [some 0, none] (aOwn 0 (aCons (eFr (eOp2 gAdd (pV (eOp2 gSub (pV (eVar 2)) (pV (eVar 1)))) (pV (eC (.int 1))))) aNil))))) [some o, some (.d (.int a)), some (.d (.int b)), none, none, none, none, none, none, none] =
        some (.nx [some o1, some (.d (.int a)), some (.d (.int b)), some (.d (.int n)), none, none, none, none, none, none]) := by
      simp [e1, hn1]
    have c1 := comp_id (own := [9]) (i := 9) (e := [some o1, some (.d (.int a)), some (.d (.int b)), some (.d (.int n)), none, none, none, none, none, none]) (rangeD 1 (n : Int)) (fun _ => rfl) (fun _ => rfl)
    have c2 := comp_zero (own := [9]) (i := 9) (e := [some o1, some (.d (.int a)), some (.d (.int b)), some (.d (.int n)), none, none, none, none, none, none]) n (fun _ => rfl)
    have q1 : (-1000000 : Int) ≤ 1 ∧ (1 : Int) ≤ 1000000 ∧ -1000000 ≤ (n : Int) ∧ (n : Int) ≤ 1000000 := by omega
    have q2 : -1000000 ≤ (n : Int) ∧ (n : Int) ≤ 1000000 := by omega
    have q3 : (rangeD 1 (n : Int)).length ≤ 1000000 := by rw [rangeD_one, zs_len]; simp; omega
    have q4 : (rangeD 0 (n : Int)).length ≤ 1000000 := by rw [rangeD_zero]; simp; omega
    have w1 : eFr (eComp [9] (iRange2 (eC (.int 1)) (eVar 3)) (tName 9) bYes (eVar 9)) [some o1, some (.d (.int a)), some (.d (.int b)), some (.d (.int n)), none, none, none, none, none, none] =
        some (.d (.list (rangeD 1 (n : Int))), [some o1, some (.d (.int a)), some (.d (.int b)), some (.d (.int n)), none, none, none, none, none, none]) := by
      unfold eFr eComp iRange2
      show (((if _ ∧ _ ∧ _ ∧ _ then _ else none : Option (List D × Ev)).bind _ : Option (O × Ev)).bind _) = _
      rw [if_pos q1, Option.bind_some, if_pos ⟨q3, rfl⟩]
      show ((Option.bind (compLoop [9] (tName 9) bYes (eVar 9) (rangeD 1 (n : Int)) [some o1, some (.d (.int a)), some (.d (.int b)), some (.d (.int n)), none, none, none, none, none, none]) _).bind _) = _
      rw [c1]
      rfl
    have w2 : eComp [9] (iRange (eVar 3)) (tName 9) bYes (eC (.int 0)) [some o1, some (.d (.int a)), some (.d (.int b)), some (.d (.int n)), none, none, none, none, none, none] =
        some (.l (zs (List.replicate n 0)), [some o1, some (.d (.int a)), some (.d (.int b)), some (.d (.int n)), none, none, none, none, none, none]) := by
      unfold eComp iRange
      show ((if _ ∧ _ then _ else none : Option (List D × Ev)).bind _) = _
      rw [if_pos q2, Option.bind_some, if_pos ⟨q4, rfl⟩]
      show (Option.bind (compLoop [9] (tName 9) bYes (eC (.int 0)) (rangeD 0 (n : Int)) [some o1, some (.d (.int a)), some (.d (.int b)), some (.d (.int n)), none, none, none, none, none, none]) _) = _
      rw [c2]
      rfl
    have b2 : sPar3 4 5 6 (eFr (eComp [9] (iRange2 (eC (.int 1)) (eVar 3)) (tName 9) bYes (eVar 9))) (eC (.int 0)) (eComp [9] (iRange (eVar 3)) (tName 9) bYes (eC (.int 0))) [some o1, some (.d (.int a)), some (.d (.int b)), some (.d (.int n)), none, none, none, none, none, none] =
        some (.nx [some o1, some (.d (.int a)), some (.d (.int b)), some (.d (.int n)), some (.d (.list (rangeD 1 (n : Int)))), some (.d (.int 0)), some (.l (zs (List.replicate n 0))), none, none, none]) := by
      unfold sPar3
      rw [w1, Option.bind_some]
      show (Option.bind (eComp [9] (iRange (eVar 3)) (tName 9) bYes (eC (.int 0)) [some o1, some (.d (.int a)), some (.d (.int b)), some (.d (.int n)), none, none, none, none, none, none]) _) = _
      rw [w2]
      rfl
    have b3 : sFor (iRange (eOp2 gSub (pV (eVar 3)) (pV (eC (.int 1))))) (tName 7) patB [some o1, some (.d (.int a)), some (.d (.int b)), some (.d (.int n)), some (.d (.list (rangeD 1 (n : Int)))), some (.d (.int 0)), some (.l (zs (List.replicate n 0))), none, none, none] =
        some (.nx [some o2, some (.d (.int a)), some (.d (.int b)), some (.d (.int n)), some (.d (.list (zs s.1))), some (.d (.int s.2.1)), some (.l (zs s.2.2)), y7, y8, none]) := by
      have q5 : -1000000 ≤ (n : Int) - 1 ∧ (n : Int) - 1 ≤ 1000000 := by omega
      unfold sFor iRange
      show (((if _ ∧ _ then _ else none : Option (List D × Ev))).bind _) = _
      rw [if_pos q5, Option.bind_some]
      rw [show (n : Int) - 1 = ((n - 1 : Nat) : Int) by omega, rangeD_one]
      exact g3
    have b4 : sSub 6 (eVar 5) (eC (.int 0)) [some o2, some (.d (.int a)), some (.d (.int b)), some (.d (.int n)), some (.d (.list (zs s.1))), some (.d (.int s.2.1)), some (.l (zs s.2.2)), y7, y8, none] =
        some (.nx [some o2, some (.d (.int a)), some (.d (.int b)), some (.d (.int n)), some (.d (.list (zs s.1))), some (.d (.int s.2.1)), some (.l (zs (s.2.2.set s.2.1.toNat 0))), y7, y8, none]) := by
      have i1 : L2.ixN (zs s.2.2).length (k : Int) = some k := by rw [zs_len]; exact ix_nat (by omega)
      have hz := set_zs s.2.2 k 0
      rw [hk]
      have hkk : ((k : Int)).toNat = k := by omega
      simp [i1, hz]
    have q6 : (zs (s.2.2.set s.2.1.toNat 0)).length ≤ 1000000 := by rw [zs_len]; simp; omega
    refine runDef_rt (e := [some o2, some (.d (.int a)), some (.d (.int b)), some (.d (.int n)), some (.d (.list (zs s.1))), some (.d (.int s.2.1)), some (.l (zs (s.2.2.set s.2.1.toNat 0))), y7, y8, none]) rfl ?_
    show B_pattern [some o, some (.d (.int a)), some (.d (.int b)), none, none, none, none, none, none, none] = _
    unfold B_pattern
    rw [sSeq_run b1, sSeq_run b2, sSeq_run b3, sSeq_run b4]
    simp [q6]
  · unfold patsN
    refine List.mem_flatMap.mpr ⟨d, List.mem_range.mpr (by omega), ?_⟩
    rw [← hn]
    unfold cycs
    exact List.mem_map.mpr ⟨s, g1.mem, rfl⟩
end Sh

/-! Loops whose turns are known: plain Lean. -/
namespace Sh
open PySem
theorem genLoop_all {own : List Nat} {tg : Tg} {elt : Ex} {e : Ev} (f : D → Bool) : ∀ ds : List D,
    (∀ x ∈ ds, ∃ e1 e2, tg x e = some e1 ∧ elt e1 = some (.d (.bool (f x)), e2) ∧ wipeE e2 own = e) → genLoop own tg bYes elt false ds e = some (ds.all f, e)
  | [], _ => rfl
  | x :: xs, h => by
    obtain ⟨e1, e2, h1, h2, h3⟩ := h x List.mem_cons_self
    have ih := genLoop_all f xs fun y hy => h y (List.mem_cons_of_mem _ hy)
    unfold genLoop
    rw [h1, Option.bind_some]
    show Option.bind (some (true, e1)) _ = _
    rw [Option.bind_some]
    simp only [if_true]
    rw [h2, Option.bind_some]
    show Option.bind (some (f x)) _ = _
    rw [Option.bind_some]
    cases hf : f x with
    | false =>
      simp only [if_true, List.all_cons, hf, Bool.false_and]
      rw [h3]
    | true =>
      simp only [Bool.true_eq_false, if_false, List.all_cons, hf, Bool.true_and]
      rw [h3, ih]
theorem sumLoop_pure {own : List Nat} {tg : Tg} {elt : Ex} {e : Ev} (f : D → Int) : ∀ ds : List D,
    (∀ x ∈ ds, ∃ e1 e2, tg x e = some e1 ∧ elt e1 = some (.d (.int (f x)), e2) ∧ wipeE e2 own = e) → sumLoop own tg bYes elt ds e = some ((ds.map f).sum, e)
  | [], _ => rfl
  | x :: xs, h => by
    obtain ⟨e1, e2, h1, h2, h3⟩ := h x List.mem_cons_self
    have ih := sumLoop_pure f xs fun y hy => h y (List.mem_cons_of_mem _ hy)
    unfold sumLoop
    rw [h1, Option.bind_some]
    show Option.bind (some (true, e1)) _ = _
    rw [Option.bind_some]
    simp only [if_true]
    rw [h2, Option.bind_some]
    show Option.bind (some (f x)) _ = _
    rw [Option.bind_some, h3, ih, Option.bind_some, List.map_cons, List.sum_cons]
/-- a comprehension without a condition, each item's value known -/
theorem compLoop_all {own : List Nat} {tg : Tg} {elt : Ex} {e : Ev} (f : D → D) (ds : List D)
    (h : ∀ x ∈ ds, ∃ e1 o e3, tg x e = some e1 ∧ elt e1 = some (o, e3) ∧ frz o = some (f x) ∧ wipeE e3 own = e) : compLoop own tg bYes elt ds e = some (ds.map f, e) := by
  rw [compLoop_pure (fun _ => true) f]
  · rw [List.filter_eq_self.mpr (by simp)]
  · intro x hx
    obtain ⟨e1, o, e3, h1, h2, h3, h4⟩ := h x hx
    exact ⟨e1, e1, h1, rfl, by simp, fun _ => ⟨o, e3, h2, h3, h4⟩⟩
theorem forLoop_cons {tg : Tg} {body : Sx} {x : D} {xs : List D} {e e1 e2 : Ev} (h1 : tg x e = some e1) (h2 : body e1 = some (.nx e2)) : forLoop tg body (x :: xs) e = forLoop tg body xs e2 := by
  conv => lhs; unfold forLoop
  rw [h1, Option.bind_some, h2, Option.bind_some]
theorem forLoop_rt {tg : Tg} {body : Sx} {x : D} {xs : List D} {e e1 e2 : Ev} {r : O} (h1 : tg x e = some e1) (h2 : body e1 = some (.rt r e2)) : forLoop tg body (x :: xs) e = some (.rt r e2) := by
  conv => lhs; unfold forLoop
  rw [h1, Option.bind_some, h2, Option.bind_some]
theorem sSeq_rt {a b : Sx} {e e1 : Ev} {r : O} (h : a e = some (.rt r e1)) : sSeq a b e = some (.rt r e1) := by
  simp only [sSeq, h, Option.bind_some]
theorem sFor_run {it : ExI} {tg : Tg} {body : Sx} {e e1 : Ev} {ds : List D} {r : Out} (h : it e = some (ds, e1)) (h2 : forLoop tg body ds e1 = some r) : sFor it tg body e = some r := by
  unfold sFor
  rw [h, Option.bind_some]
  exact h2
theorem runDef_nx {n np : Nat} {lk : Nat → Bool} {body : Sx} {os : List O} {e : Ev} (hl : os.length = np) (h : body (os.map some ++ List.replicate (n - np) none) = some (.nx e)) : runDef n np lk body os = some (.d .none, fins lk e np) := by
  unfold runDef
  rw [if_pos hl, h]
  rfl
theorem eComp_run {own : List Nat} {it : ExI} {tg : Tg} {cond : ExB} {elt : Ex} {e e1 e2 : Ev} {ds ys : List D} (h : it e = some (ds, e1)) (hl : ds.length ≤ 1000000) (hp : plainE e1 own = true) (hc : compLoop own tg cond elt ds (wipeE e1 own) = some (ys, e2)) :
    eComp own it tg cond elt e = some (.l ys, backE e1 e2 own) := by
  unfold eComp
  rw [h, Option.bind_some, if_pos ⟨hl, hp⟩, hc]
  rfl
theorem eGenB_run {own : List Nat} {it : ExI} {tg : Tg} {cond : ExB} {elt : Ex} {st : Bool} {e e1 e2 : Ev} {ds : List D} {b : Bool} (h : it e = some (ds, e1)) (hl : ds.length ≤ 1000000) (hp : plainE e1 own = true) (hc : genLoop own tg cond elt st ds (wipeE e1 own) = some (b, e2)) :
    eGenB own it tg cond elt st e = some (.d (.bool b), backE e1 e2 own) := by
  unfold eGenB
  rw [h, Option.bind_some, if_pos ⟨hl, hp⟩, hc]
  rfl
theorem eGenS_run {own : List Nat} {it : ExI} {tg : Tg} {cond : ExB} {elt : Ex} {e e1 e2 : Ev} {ds : List D} {b : Int} (h : it e = some (ds, e1)) (hl : ds.length ≤ 1000000) (hp : plainE e1 own = true) (hc : sumLoop own tg cond elt ds (wipeE e1 own) = some (b, e2)) :
    eGenS own it tg cond elt e = some (.d (.int b), backE e1 e2 own) := by
  unfold eGenS
  rw [h, Option.bind_some, if_pos ⟨hl, hp⟩, hc]
  rfl
theorem iRange_run {a : Ex} {e e' : Ev} {n : Nat} (h : a e = some (.d (.int (n : Int)), e')) (hn : n ≤ 1000000) : iRange a e = some ((List.range n).map fun k : Nat => PyData.int (k : Int), e') := by
  unfold iRange
  have h1 : -1000000 ≤ (n : Int) ∧ (n : Int) ≤ 1000000 := by omega
  rw [h, Option.bind_some]
  show (if -1000000 ≤ (n : Int) ∧ (n : Int) ≤ 1000000 then some (rangeD 0 (n : Int), e') else none) = _
  rw [if_pos h1, rangeD_zero]
theorem eOp2_v {g : O → O → Option O} {a b : Ex} {e e1 e2 : Ev} {x y z : O} (h1 : a e = some (x, e1)) (h2 : b e1 = some (y, e2)) (h3 : g x y = some z) : eOp2 g (pV a) (pV b) e = some (z, e2) := by
  simp only [eOp2, pV, h1, h2, Option.bind_some, res, h3]
theorem eOp1_v {g : O → Option O} {a : Ex} {e e1 : Ev} {x z : O} (h1 : a e = some (x, e1)) (h3 : g x = some z) : eOp1 g (pV a) e = some (z, e1) := by
  simp only [eOp1, pV, h1, Option.bind_some, res, h3]
theorem gMul_ok {i j : Int} (h : -1000000 ≤ i) (h2 : i ≤ 1000000) : gMul (.d (.int i)) (.d (.int j)) = some (.d (.int (i * j))) := by
  have : -(2 ^ 64) < i ∧ i < 2 ^ 64 := by omega
  unfold gMul
  simp only []
  rw [if_pos (.inl this)]
theorem gItem_t {xs : List D} {i : Int} {x : D} (h : L2.atI xs i = some x) : gItem (.d (.tuple xs)) (.d (.int i)) = some (.d x) := by
  simp only [gItem, oSeq, oInt, dItem, Option.bind_some, h]
theorem gItem_l {xs : List D} {i : Int} {x : D} (h : L2.atI xs i = some x) : gItem (.d (.list xs)) (.d (.int i)) = some (.d x) := by
  simp only [gItem, oSeq, oInt, dItem, Option.bind_some, h]
theorem sApp_run {j : Nat} {v : Ex} {e e' : Ev} {xs : List D} {y : D} {o : O} (h1 : slot e j = some (.l xs)) (hv : v e = some (o, e')) (h3 : slot e' j = some (.l xs)) (hf : frz o = some y) (h4 : xs.length < 1000000) : sApp j v e = some (.nx (e'.set j (some (.l (xs ++ [y]))))) := by
  unfold sApp
  simp only [h1, Option.bind_some, oOwn, hv, h3, hf]
  rw [if_pos h4]
theorem at_nat' {xs : List D} {k : Nat} {x : D} (h : xs[k]? = some x) : L2.atI xs (k : Int) = some x := by
  unfold L2.atI
  rw [ix_nat (List.getElem?_eq_some_iff.mp h).1]
  exact h
/-! ### data: rows of ints -/
def tup (M : List (List Int)) : D := .tuple (M.map fun r => .tuple (zs r))
def lst (M : List (List Int)) : D := .list (M.map fun r => .list (zs r))
theorem canLay_zs : ∀ xs : List Int, PyData.canLayAll0 (zs xs) = true
  | [] => rfl
  | x :: xs => by
    show (PyData.canLay0 (.int x) && PyData.canLayAll0 (zs xs)) = true
    rw [canLay_zs xs]
    rfl
theorem depth_zs : ∀ xs : List Int, PyData.depthAll (zs xs) = 0
  | [] => by simp [zs, PyData.depthAll]
  | x :: xs => by
    show PyData.depthAll (.int x :: zs xs) = 0
    rw [PyData.depthAll, depth_zs xs]
    simp [PyData.depth]
theorem eqv_zs : ∀ xs ys : List Int, PyData.eqvAll (zs xs) (zs ys) = decide (xs = ys)
  | [], [] => by simp [zs, PyData.eqvAll]
  | [], y :: ys => by simp [zs, PyData.eqvAll]
  | x :: xs, [] => by simp [zs, PyData.eqvAll]
  | x :: xs, y :: ys => by
    show PyData.eqvAll (.int x :: zs xs) (.int y :: zs ys) = _
    rw [PyData.eqvAll, eqv_zs xs ys, eqv_int]
    by_cases h : x = y <;> by_cases h2 : xs = ys <;> simp [h, h2]
theorem shaped_zs (xs : List Int) : SeqAt.shaped (.tuple (zs xs)) = true := by
  unfold SeqAt.shaped
  rw [PyData.canLay0, canLay_zs, PyData.depth, depth_zs]
  rfl
theorem rows_lay (c : List D → D) (hc : (∀ xs, c xs = .list xs) ∨ (∀ xs, c xs = .tuple xs)) : ∀ M : List (List Int), PyData.canLayAll0 (M.map fun r => c (zs r)) = true ∧ PyData.depthAll (M.map fun r => c (zs r)) ≤ 1
  | [] => by simp [PyData.canLayAll0, PyData.depthAll]
  | r :: M => by
    obtain ⟨h1, h2⟩ := rows_lay c hc M
    rw [List.map_cons, PyData.canLayAll0, h1, PyData.depthAll]
    rcases hc with hc | hc <;> rw [hc, PyData.canLay0, canLay_zs, PyData.depth, depth_zs] <;> exact ⟨rfl, Nat.max_le.mpr ⟨by omega, h2⟩⟩
theorem rows_eqv (c : List D → D) (hc : (∀ xs, c xs = .list xs) ∨ (∀ xs, c xs = .tuple xs)) : ∀ M N : List (List Int), PyData.eqvAll (M.map fun r => c (zs r)) (N.map fun r => c (zs r)) = decide (M = N)
  | [], [] => by simp [PyData.eqvAll]
  | [], y :: ys => by simp [PyData.eqvAll]
  | x :: xs, [] => by simp [PyData.eqvAll]
  | x :: xs, y :: ys => by
    have e : PyData.eqv (c (zs x)) (c (zs y)) = decide (x = y) := by
      rcases hc with hc | hc <;> rw [hc, hc, PyData.eqv, eqv_zs]
    rw [List.map_cons, List.map_cons, PyData.eqvAll, rows_eqv c hc xs ys, e]
    by_cases h : x = y <;> by_cases h2 : xs = ys <;> simp [h, h2]
theorem shaped_tup (M : List (List Int)) : SeqAt.shaped (tup M) = true := by
  obtain ⟨h1, h2⟩ := rows_lay .tuple (.inr fun _ => rfl) M
  unfold SeqAt.shaped tup
  rw [PyData.canLay0, h1, PyData.depth]
  exact decide_eq_true (by omega)
theorem shaped_lst (M : List (List Int)) : SeqAt.shaped (lst M) = true := by
  obtain ⟨h1, h2⟩ := rows_lay .list (.inl fun _ => rfl) M
  unfold SeqAt.shaped lst
  rw [PyData.canLay0, h1, PyData.depth]
  exact decide_eq_true (by omega)
theorem eqv_tup (M N : List (List Int)) : PyData.eqv (tup M) (tup N) = decide (M = N) := by
  unfold tup
  rw [PyData.eqv, rows_eqv .tuple (.inr fun _ => rfl)]
theorem eqv_lst (M N : List (List Int)) : PyData.eqv (lst M) (lst N) = decide (M = N) := by
  unfold lst
  rw [PyData.eqv, rows_eqv .list (.inl fun _ => rfl)]
theorem gEq_tup (M N : List (List Int)) : gEq (.d (tup M)) (.d (tup N)) = some (decide (M = N)) := by
  simp only [gEq, oDat, Option.bind_some]
  rw [if_pos ⟨shaped_tup M, shaped_tup N⟩, eqv_tup]
theorem gEq_lst (M N : List (List Int)) : gEq (.l (M.map fun r => .list (zs r))) (.l (N.map fun r => .list (zs r))) = some (decide (M = N)) := by
  simp only [gEq, oDat, Option.bind_some]
  rw [if_pos ⟨shaped_lst M, shaped_lst N⟩]
  exact congrArg some (eqv_lst M N)
theorem eqv_row (xs ys : List Int) : PyData.eqv (.tuple (zs xs)) (.tuple (zs ys)) = decide (xs = ys) := by rw [PyData.eqv, eqv_zs]
theorem intsOf_zs : ∀ l : List Int, intsOf (zs l) = some l
  | [] => rfl
  | x :: l => by
    show (intsOf (zs l)).bind _ = _
    rw [intsOf_zs l]
    rfl
end Sh

/-! Shift layer: sortD of ints and of rows of ints by insertion, quick in the kernel. Plain Lean. -/
namespace Sh
open PySem
def rowLe : List Int → List Int → Bool
  | [], _ => true
  | _ :: _, [] => false
  | x :: xs, y :: ys => if x = y then rowLe xs ys else decide (x < y)
theorem rowLe_eq : ∀ xs ys : List Int, rowLe xs ys = decide (xs ≤ ys)
  | [], ys => by
    have : ([] : List Int) ≤ ys := List.nil_le ys
    simp [rowLe, this]
  | x :: xs, [] => by
    have : ¬ (x :: xs) ≤ ([] : List Int) := by simp
    simp [rowLe, this]
  | x :: xs, y :: ys => by
    unfold rowLe
    by_cases h : x = y
    · subst h
      rw [if_pos rfl, rowLe_eq xs ys]
      simp [List.cons_le_cons_iff]
    · rw [if_neg h]
      simp [List.cons_le_cons_iff, h]
def insR (x : List Int) : List (List Int) → List (List Int)
  | [] => [x]
  | y :: ys => if rowLe x y = true then x :: y :: ys else y :: insR x ys
def sortR : List (List Int) → List (List Int)
  | [] => []
  | x :: xs => insR x (sortR xs)
theorem insR_perm (x : List Int) : ∀ ys : List (List Int), (insR x ys).Perm (x :: ys)
  | [] => .refl _
  | y :: ys => by
    unfold insR
    split
    · exact .refl _
    · exact ((insR_perm x ys).cons y).trans (.swap x y ys)
theorem sortR_perm : ∀ xs : List (List Int), (sortR xs).Perm xs
  | [] => .refl _
  | x :: xs => (insR_perm x _).trans ((sortR_perm xs).cons x)
theorem rowLe_false {x y : List Int} (h : ¬ rowLe x y = true) : y ≤ x := by
  rw [rowLe_eq, decide_eq_true_eq] at h
  rcases List.le_total x y with z | z
  · exact absurd z h
  · exact z
theorem insR_rises (x : List Int) : ∀ ys : List (List Int), ys.Pairwise (· ≤ ·) → (insR x ys).Pairwise (· ≤ ·)
  | [], _ => List.pairwise_singleton _ _
  | y :: ys, h => by
    obtain ⟨h1, h2⟩ := List.pairwise_cons.mp h
    unfold insR
    split
    · rename_i hle
      rw [rowLe_eq, decide_eq_true_eq] at hle
      refine List.pairwise_cons.mpr ⟨fun z hz => ?_, h⟩
      rcases List.mem_cons.mp hz with e | hz
      · rw [e]
        exact hle
      · exact List.le_trans hle (h1 z hz)
    · rename_i hle
      refine List.pairwise_cons.mpr ⟨fun z hz => ?_, insR_rises x ys h2⟩
      have := (insR_perm x ys).mem_iff.mp hz
      rcases List.mem_cons.mp this with e | hz
      · rw [e]
        exact rowLe_false hle
      · exact h1 z hz
theorem sortR_rises : ∀ xs : List (List Int), (sortR xs).Pairwise (· ≤ ·)
  | [] => List.Pairwise.nil
  | x :: xs => insR_rises x _ (sortR_rises xs)
theorem merge_rows (L : List (List Int)) : L.mergeSort (fun a b => decide (a ≤ b)) = sortR L := by
  refine List.Perm.eq_of_pairwise (le := fun a b : List Int => a ≤ b) (fun a b _ _ h1 h2 => List.le_antisymm h1 h2) ?_ (sortR_rises L) ((List.mergeSort_perm L _).trans (sortR_perm L).symm)
  have := List.pairwise_mergeSort (le := fun a b : List Int => decide (a ≤ b)) (fun a b c h1 h2 => by
    simp only [decide_eq_true_eq] at *
    exact List.le_trans h1 h2) (fun a b => by
    simp only [Bool.or_eq_true, decide_eq_true_eq]
    exact List.le_total a b) L
  simpa using this
theorem merge_ints (L : List Int) : L.mergeSort (fun a b => decide (a ≤ b)) = sortI L := by
  refine List.Perm.eq_of_pairwise (le := fun a b : Int => a ≤ b) (fun a b _ _ h1 h2 => Int.le_antisymm h1 h2) ?_ (sortI_rises L) ((List.mergeSort_perm L _).trans (sortI_perm L).symm)
  have := List.pairwise_mergeSort (le := fun a b : Int => decide (a ≤ b)) (fun a b c h1 h2 => by
    simp only [decide_eq_true_eq] at *
    exact Int.le_trans h1 h2) (fun a b => by
    simp only [Bool.or_eq_true, decide_eq_true_eq]
    exact Int.le_total a b) L
  simpa using this
abbrev rowT (r : List Int) : D := .tuple (r.map .int)
theorem sortD_rows (L : List (List Int)) : sortD (L.map rowT) = (sortR L).map rowT := by
  unfold sortD
  rw [← merge_rows, List.map_mergeSort]
  intro a _ b _
  show decide (a ≤ b) = !PySem.W.dataLt (.tuple (b.map .int)) (.tuple (a.map .int))
  rw [PySem.W.dataLt_tuple]
  show decide (a ≤ b) = !PySem.W.rowLt (b.map .int) (a.map .int)
  rw [PySem.W.dataLt_ints]
  by_cases h : b < a
  · have h' : ¬ a ≤ b := fun r => List.not_lt.mpr r h
    simp [h, h']
  · have h' : a ≤ b := List.not_lt.mp h
    simp [h, h']
theorem sortD_ints (L : List Int) : sortD (L.map .int) = (sortI L).map .int := by
  unfold sortD
  rw [← merge_ints, List.map_mergeSort]
  intro a _ b _
  show decide (a ≤ b) = !PySem.W.dataLt (.int b) (.int a)
  rw [PySem.W.dataLt_int, PySem.W.not_lt_int]
theorem intsOf_eq : ∀ {xs : List D} {ns : List Int}, intsOf xs = some ns → xs = ns.map .int
  | [], _, e => by
    cases e
    rfl
  | .int i :: r, ns, e => by
    unfold intsOf at e
    cases h : intsOf r with
    | none => rw [h] at e; cases e
    | some ms =>
      rw [h] at e
      cases e
      rw [intsOf_eq h]
      rfl
  | .none :: _, _, e => by simp [intsOf] at e
  | .bool _ :: _, _, e => by simp [intsOf] at e
  | .str _ :: _, _, e => by simp [intsOf] at e
  | .list _ :: _, _, e => by simp [intsOf] at e
  | .tuple _ :: _, _, e => by simp [intsOf] at e
  | .dict _ :: _, _, e => by simp [intsOf] at e
def rowsOf : List D → Option (List (List Int))
  | [] => some []
  | .tuple xs :: r => (intsOf xs).bind fun ns => (rowsOf r).bind fun L => some (ns :: L)
  | _ => none
theorem rowsOf_eq : ∀ {xs : List D} {L : List (List Int)}, rowsOf xs = some L → xs = L.map rowT
  | [], _, e => by
    cases e
    rfl
  | .tuple xs :: r, L, e => by
    unfold rowsOf at e
    cases h : intsOf xs with
    | none => rw [h] at e; cases e
    | some ms =>
      rw [h] at e
      cases h2 : rowsOf r with
      | none => rw [h2] at e; cases e
      | some L2 =>
        rw [h2] at e
        cases e
        rw [intsOf_eq h, rowsOf_eq h2]
        rfl
  | .none :: _, _, e => by simp [rowsOf] at e
  | .bool _ :: _, _, e => by simp [rowsOf] at e
  | .str _ :: _, _, e => by simp [rowsOf] at e
  | .list _ :: _, _, e => by simp [rowsOf] at e
  | .int _ :: _, _, e => by simp [rowsOf] at e
  | .dict _ :: _, _, e => by simp [rowsOf] at e
/-- sortD, quick -/
def sortDQ (ds : List D) : List D := match intsOf ds with
  | some ns => (sortI ns).map .int
  | none => match rowsOf ds with
    | some L => (sortR L).map rowT
    | none => sortD ds
theorem sortDQ_eq : sortDQ = sortD := by
  funext ds
  unfold sortDQ
  split
  · rename_i ns h
    rw [intsOf_eq h, sortD_ints]
  · split
    · rename_i L h
      rw [rowsOf_eq h, sortD_rows]
    · rfl
/-- alike data, quick -/
def gSortedR (x : O) : Option O := (oLst x).bind fun xs => if allAlikeB xs = true ∧ sortableB xs = true ∧ xs.length ≤ 1000000 ∧ (xs.all fun d => decide (d.depth ≤ 64)) = true ∧ noDs xs = true then some (.l (sortDQ xs)) else none
theorem gSortedR_eq : @gSortedR = @gSorted := by
  funext x
  unfold gSortedR gSorted
  rw [sortDQ_eq]
end Sh

/-! Shift layer: the combinators again, quick in the kernel; printed by mkfast.py. -/
namespace Sh
open PySem
noncomputable def slotR (e : Ev) (k : Nat) : Option O := List.rec (motive := fun _ => Nat → Option O) (fun _ => none) (fun x _ ih j => Nat.rec x (fun j' _ => ih j') j) e k
noncomputable def setR (e : Ev) (k : Nat) (x : Option O) : Ev := List.rec (motive := fun _ => Nat → Ev) (fun _ => []) (fun y ys ih j => Nat.rec (x :: ys) (fun j' _ => y :: ih j') j) e k
def forceE {α : Type} : Ev → (Ev → α) → α
  | [], k => k []
  | x :: xs, k => forceE xs fun ys => k (x :: ys)
theorem forceE_eq {α : Type} : ∀ (e : Ev) (k : Ev → α), forceE e k = k e
  | [], k => rfl
  | x :: xs, k => forceE_eq xs _
theorem slotR_eq : @slotR = @slot := by
  funext e j
  induction e generalizing j with
  | nil => simp [slotR, slot]
  | cons x xs ih =>
    cases j with
    | zero => rfl
    | succ j =>
      have := ih j
      unfold slot at this ⊢
      rw [List.getElem?_cons_succ, ← this]
      rfl
theorem setR_eq (e : Ev) (j : Nat) (x : Option O) : setR e j x = e.set j x := by
  induction e generalizing j with
  | nil => simp [setR]
  | cons y ys ih =>
    cases j with
    | zero => rfl
    | succ j =>
      have := ih j
      rw [List.set_cons_succ, ← this]
      rfl

noncomputable def resR (e : Ev) : O ⊕ Nat → Option O
  | .inl o => some o
  | .inr j => slotR e j
theorem resR_eq : @resR = @res := by
  unfold resR res
  first | rfl | (simp only [slotR_eq, setR_eq, forceE_eq]; done) | (simp only [slotR_eq, setR_eq, forceE_eq]; rfl)
noncomputable def eVarR (j : Nat) : Ex := fun e => match slotR e j with
  | some (.d x) => some (.d x, e)
  | _ => none
/-- the slot's owned list, known from now on -/
theorem eVarR_eq : @eVarR = @eVar := by
  unfold eVarR eVar
  first | rfl | (simp only [slotR_eq, setR_eq, forceE_eq, resR_eq]; done) | (simp only [slotR_eq, setR_eq, forceE_eq, resR_eq]; rfl)
noncomputable def eFrzR (j : Nat) : Ex := fun e => (slotR e j).bind fun o => (frz o).bind fun x => some (.d x, e.set j (some (.d x)))
theorem eFrzR_eq : @eFrzR = @eFrz := by
  unfold eFrzR eFrz
  first | rfl | (simp only [slotR_eq, setR_eq, forceE_eq, resR_eq, eVarR_eq]; done) | (simp only [slotR_eq, setR_eq, forceE_eq, resR_eq, eVarR_eq]; rfl)
noncomputable def pSR (j : Nat) : ExP := fun e => (slotR e j).bind fun _ => some (.inr j, e)
theorem pSR_eq : @pSR = @pS := by
  unfold pSR pS
  first | rfl | (simp only [slotR_eq, setR_eq, forceE_eq, resR_eq, eVarR_eq, eFrzR_eq]; done) | (simp only [slotR_eq, setR_eq, forceE_eq, resR_eq, eVarR_eq, eFrzR_eq]; rfl)
noncomputable def eOp1R (g : O → Option O) (a : ExP) : Ex := fun e => (a e).bind fun p => (resR p.2 p.1).bind fun x => (g x).bind fun z => some (z, p.2)
theorem eOp1R_eq : @eOp1R = @eOp1 := by
  unfold eOp1R eOp1
  first | rfl | (simp only [slotR_eq, setR_eq, forceE_eq, resR_eq, eVarR_eq, eFrzR_eq, pSR_eq]; done) | (simp only [slotR_eq, setR_eq, forceE_eq, resR_eq, eVarR_eq, eFrzR_eq, pSR_eq]; rfl)
noncomputable def eOp2R (g : O → O → Option O) (a b : ExP) : Ex := fun e => (a e).bind fun p => (b p.2).bind fun q => (resR q.2 p.1).bind fun x => (resR q.2 q.1).bind fun y => (g x y).bind fun z => some (z, q.2)
theorem eOp2R_eq : @eOp2R = @eOp2 := by
  unfold eOp2R eOp2
  first | rfl | (simp only [slotR_eq, setR_eq, forceE_eq, resR_eq, eVarR_eq, eFrzR_eq, pSR_eq, eOp1R_eq]; done) | (simp only [slotR_eq, setR_eq, forceE_eq, resR_eq, eVarR_eq, eFrzR_eq, pSR_eq, eOp1R_eq]; rfl)
noncomputable def bOp2R (g : O → O → Option Bool) (a b : ExP) : ExB := fun e => (a e).bind fun p => (b p.2).bind fun q => (resR q.2 p.1).bind fun x => (resR q.2 q.1).bind fun y => (g x y).bind fun z => some (z, q.2)
theorem bOp2R_eq : @bOp2R = @bOp2 := by
  unfold bOp2R bOp2
  first | rfl | (simp only [slotR_eq, setR_eq, forceE_eq, resR_eq, eVarR_eq, eFrzR_eq, pSR_eq, eOp1R_eq, eOp2R_eq]; done) | (simp only [slotR_eq, setR_eq, forceE_eq, resR_eq, eVarR_eq, eFrzR_eq, pSR_eq, eOp1R_eq, eOp2R_eq]; rfl)
noncomputable def bTruR (a : ExP) : ExB := fun e => (a e).bind fun p => (resR p.2 p.1).bind fun x => (oTru x).bind fun k => some (k, p.2)
theorem bTruR_eq : @bTruR = @bTru := by
  unfold bTruR bTru
  first | rfl | (simp only [slotR_eq, setR_eq, forceE_eq, resR_eq, eVarR_eq, eFrzR_eq, pSR_eq, eOp1R_eq, eOp2R_eq, bOp2R_eq]; done) | (simp only [slotR_eq, setR_eq, forceE_eq, resR_eq, eVarR_eq, eFrzR_eq, pSR_eq, eOp1R_eq, eOp2R_eq, bOp2R_eq]; rfl)
noncomputable def aOwnR (j : Nat) (r : ExA) : ExA := fun e => (slotR e j).bind fun _ => (r e).bind fun q => (slotR q.2 j).bind fun o => some (o :: q.1, q.2)
theorem aOwnR_eq : @aOwnR = @aOwn := by
  unfold aOwnR aOwn
  first | rfl | (simp only [slotR_eq, setR_eq, forceE_eq, resR_eq, eVarR_eq, eFrzR_eq, pSR_eq, eOp1R_eq, eOp2R_eq, bOp2R_eq, bTruR_eq]; done) | (simp only [slotR_eq, setR_eq, forceE_eq, resR_eq, eVarR_eq, eFrzR_eq, pSR_eq, eOp1R_eq, eOp2R_eq, bOp2R_eq, bTruR_eq]; rfl)
noncomputable def putBackR : List (Option Nat) → List (Option O) → Ev → Ev
  | some j :: own, o :: os, e => putBackR own os (setR e j o)
  | none :: own, _ :: os, e => putBackR own os e
  | _, _, e => e
--PROOF putBack
theorem putBackR_eq : @putBackR = @putBack := by
  funext own os e
  induction own generalizing os e with
  | nil => cases os <;> rfl
  | cons o own ih =>
    cases os with
    | nil => cases o <;> rfl
    | cons x os => cases o with
      | none => exact ih os e
      | some j =>
        show putBackR own os (setR e j x) = putBack own os (e.set j x)
        rw [setR_eq]
        exact ih os _
noncomputable def clearER : List (Option Nat) → Ev → Ev
  | some j :: own, e => setR (clearER own e) j none
  | none :: own, e => clearER own e
  | [], e => e
--PROOF clearE
theorem clearER_eq : @clearER = @clearE := by
  funext own e
  induction own generalizing e with
  | nil => rfl
  | cons o own ih => cases o with
    | none => exact ih e
    | some j =>
      show setR (clearER own e) j none = (clearE own e).set j none
      rw [setR_eq, ih]
noncomputable def eCallR (F : Fn) (own : List (Option Nat)) (as : ExA) : Ex := fun e => (as e).bind fun p => (F p.1).bind fun q => some (q.1, putBackR own q.2 (clearER own p.2))

/-! ### what is walked; comprehensions -/
theorem eCallR_eq : @eCallR = @eCall := by
  unfold eCallR eCall
  first | rfl | (simp only [slotR_eq, setR_eq, forceE_eq, resR_eq, eVarR_eq, eFrzR_eq, pSR_eq, eOp1R_eq, eOp2R_eq, bOp2R_eq, bTruR_eq, aOwnR_eq, putBackR_eq, clearER_eq]; done) | (simp only [slotR_eq, setR_eq, forceE_eq, resR_eq, eVarR_eq, eFrzR_eq, pSR_eq, eOp1R_eq, eOp2R_eq, bOp2R_eq, bTruR_eq, aOwnR_eq, putBackR_eq, clearER_eq]; rfl)
noncomputable def tNameR (i : Nat) : Tg := fun x e => some (setR e i (some (.d x)))
theorem tNameR_eq : @tNameR = @tName := by
  unfold tNameR tName
  first | rfl | (simp only [slotR_eq, setR_eq, forceE_eq, resR_eq, eVarR_eq, eFrzR_eq, pSR_eq, eOp1R_eq, eOp2R_eq, bOp2R_eq, bTruR_eq, aOwnR_eq, putBackR_eq, clearER_eq, eCallR_eq]; done) | (simp only [slotR_eq, setR_eq, forceE_eq, resR_eq, eVarR_eq, eFrzR_eq, pSR_eq, eOp1R_eq, eOp2R_eq, bOp2R_eq, bTruR_eq, aOwnR_eq, putBackR_eq, clearER_eq, eCallR_eq]; rfl)
noncomputable def wipeER : Ev → List Nat → Ev
  | e, [] => e
  | e, v :: vs => setR (wipeER e vs) v none
--PROOF wipeE
theorem wipeER_eq : @wipeER = @wipeE := by
  funext e vs
  induction vs with
  | nil => rfl
  | cons v vs ih =>
    show setR (wipeER e vs) v none = (wipeE e vs).set v none
    rw [setR_eq, ih]
noncomputable def backER (old : Ev) : Ev → List Nat → Ev
  | e, [] => e
  | e, v :: vs => backER old (setR e v (slotR old v)) vs
/-- no owned thing stands in these slots -/
--PROOF backE
theorem backER_eq : @backER = @backE := by
  funext old e vs
  induction vs generalizing e with
  | nil => rfl
  | cons v vs ih =>
    show backER old (setR e v (slotR old v)) vs = backE old (e.set v (slot old v)) vs
    rw [setR_eq, slotR_eq, ih]
noncomputable def plainER (e : Ev) : List Nat → Bool
  | [] => true
  | v :: vs => (match slotR e v with
    | some (.l _) => false
    | some (.m _ _) => false
    | some (.g _) => false
    | some (.k _ _) => false
    | _ => true) && plainER e vs
--PROOF plainE
theorem plainER_eq : @plainER = @plainE := by
  funext e vs
  induction vs with
  | nil => rfl
  | cons v vs ih =>
    unfold plainER plainE
    rw [slotR_eq, ih]
    try rfl
noncomputable def compLoopR (own : List Nat) (tg : Tg) (cond : ExB) (elt : Ex) : List D → Ev → Option (List D × Ev)
  | [], e => some ([], e)
  | x :: xs, e => (tg x e).bind fun e1 => (cond e1).bind fun p =>
    if p.1 = true then (elt p.2).bind fun q => (frz q.1).bind fun y => (forceE (wipeER q.2 own) fun e9 => compLoopR own tg cond elt xs e9).bind fun r => some (y :: r.1, r.2)
    else forceE (wipeER p.2 own) fun e9 => compLoopR own tg cond elt xs e9
--PROOF compLoop
theorem compLoopR_eq : @compLoopR = @compLoop := by
  funext own tg cond elt ds e
  induction ds generalizing e with
  | nil => rfl
  | cons x xs ih =>
    unfold compLoopR compLoop
    simp only [wipeER_eq, forceE_eq, ih]
noncomputable def eCompR (own : List Nat) (it : ExI) (tg : Tg) (cond : ExB) (elt : Ex) : Ex := fun e => (it e).bind fun p => if p.1.length ≤ 1000000 ∧ plainER p.2 own = true then
  (compLoopR own tg cond elt p.1 (wipeER p.2 own)).bind fun r => some (.l r.1, backER p.2 r.2 own) else none

/-! ### statements -/
theorem eCompR_eq : @eCompR = @eComp := by
  unfold eCompR eComp
  first | rfl | (simp only [slotR_eq, setR_eq, forceE_eq, resR_eq, eVarR_eq, eFrzR_eq, pSR_eq, eOp1R_eq, eOp2R_eq, bOp2R_eq, bTruR_eq, aOwnR_eq, putBackR_eq, clearER_eq, eCallR_eq, tNameR_eq, wipeER_eq, backER_eq, plainER_eq, compLoopR_eq]; done) | (simp only [slotR_eq, setR_eq, forceE_eq, resR_eq, eVarR_eq, eFrzR_eq, pSR_eq, eOp1R_eq, eOp2R_eq, bOp2R_eq, bTruR_eq, aOwnR_eq, putBackR_eq, clearER_eq, eCallR_eq, tNameR_eq, wipeER_eq, backER_eq, plainER_eq, compLoopR_eq]; rfl)
noncomputable def compLoop2R (own own1 : List Nat) (tg : Tg) (cond : ExB) (it1 : ExI) (tg1 : Tg) (cond1 : ExB) (elt : Ex) : List D → Ev → Option (List D × Ev)
  | [], e => some ([], e)
  | x :: xs, e => (tg x e).bind fun e1 => (cond e1).bind fun p =>
    if p.1 = true then (it1 p.2).bind fun q => (compLoopR own1 tg1 cond1 elt q.1 (wipeER q.2 own1)).bind fun r => (compLoop2R own own1 tg cond it1 tg1 cond1 elt xs (wipeER r.2 own)).bind fun z => some (r.1 ++ z.1, z.2)
    else compLoop2R own own1 tg cond it1 tg1 cond1 elt xs (wipeER p.2 own)
--PROOF compLoop2
theorem compLoop2R_eq : @compLoop2R = @compLoop2 := by
  funext own own1 tg cond it1 tg1 cond1 elt ds e
  induction ds generalizing e with
  | nil => rfl
  | cons x xs ih =>
    unfold compLoop2R compLoop2
    simp only [wipeER_eq, forceE_eq, compLoopR_eq, ih]
    try rfl
noncomputable def eComp2R (own own1 : List Nat) (it : ExI) (tg : Tg) (cond : ExB) (it1 : ExI) (tg1 : Tg) (cond1 : ExB) (elt : Ex) : Ex := fun e => (it e).bind fun p => if plainER p.2 own = true then
  (compLoop2R own own1 tg cond it1 tg1 cond1 elt p.1 (wipeER p.2 own)).bind fun r => if r.1.length ≤ 1000000 then some (.l r.1, backER p.2 r.2 own) else none else none
theorem eComp2R_eq : @eComp2R = @eComp2 := by
  unfold eComp2R eComp2
  first | rfl | (simp only [slotR_eq, setR_eq, forceE_eq, resR_eq, eVarR_eq, eFrzR_eq, pSR_eq, eOp1R_eq, eOp2R_eq, bOp2R_eq, bTruR_eq, aOwnR_eq, putBackR_eq, clearER_eq, eCallR_eq, tNameR_eq, wipeER_eq, backER_eq, plainER_eq, compLoopR_eq, eCompR_eq, compLoop2R_eq]; done) | (simp only [slotR_eq, setR_eq, forceE_eq, resR_eq, eVarR_eq, eFrzR_eq, pSR_eq, eOp1R_eq, eOp2R_eq, bOp2R_eq, bTruR_eq, aOwnR_eq, putBackR_eq, clearER_eq, eCallR_eq, tNameR_eq, wipeER_eq, backER_eq, plainER_eq, compLoopR_eq, eCompR_eq, compLoop2R_eq]; rfl)
noncomputable def sSetR (i : Nat) (a : Ex) : Sx := fun e => (a e).bind fun p => some (.nx (setR p.2 i (some p.1)))
theorem sSetR_eq : @sSetR = @sSet := by
  unfold sSetR sSet
  first | rfl | (simp only [slotR_eq, setR_eq, forceE_eq, resR_eq, eVarR_eq, eFrzR_eq, pSR_eq, eOp1R_eq, eOp2R_eq, bOp2R_eq, bTruR_eq, aOwnR_eq, putBackR_eq, clearER_eq, eCallR_eq, tNameR_eq, wipeER_eq, backER_eq, plainER_eq, compLoopR_eq, eCompR_eq, compLoop2R_eq, eComp2R_eq]; done) | (simp only [slotR_eq, setR_eq, forceE_eq, resR_eq, eVarR_eq, eFrzR_eq, pSR_eq, eOp1R_eq, eOp2R_eq, bOp2R_eq, bTruR_eq, aOwnR_eq, putBackR_eq, clearER_eq, eCallR_eq, tNameR_eq, wipeER_eq, backER_eq, plainER_eq, compLoopR_eq, eCompR_eq, compLoop2R_eq, eComp2R_eq]; rfl)
noncomputable def sSetFR (i : Nat) (a : Ex) : Sx := fun e => (a e).bind fun p => (frz p.1).bind fun x => some (.nx (setR p.2 i (some (.d x))))
theorem sSetFR_eq : @sSetFR = @sSetF := by
  unfold sSetFR sSetF
  first | rfl | (simp only [slotR_eq, setR_eq, forceE_eq, resR_eq, eVarR_eq, eFrzR_eq, pSR_eq, eOp1R_eq, eOp2R_eq, bOp2R_eq, bTruR_eq, aOwnR_eq, putBackR_eq, clearER_eq, eCallR_eq, tNameR_eq, wipeER_eq, backER_eq, plainER_eq, compLoopR_eq, eCompR_eq, compLoop2R_eq, eComp2R_eq, sSetR_eq]; done) | (simp only [slotR_eq, setR_eq, forceE_eq, resR_eq, eVarR_eq, eFrzR_eq, pSR_eq, eOp1R_eq, eOp2R_eq, bOp2R_eq, bTruR_eq, aOwnR_eq, putBackR_eq, clearER_eq, eCallR_eq, tNameR_eq, wipeER_eq, backER_eq, plainER_eq, compLoopR_eq, eCompR_eq, compLoop2R_eq, eComp2R_eq, sSetR_eq]; rfl)
noncomputable def sPar2R (i j : Nat) (a b : Ex) : Sx := fun e => (a e).bind fun p => (b p.2).bind fun q => some (.nx (setR (setR q.2 i (some p.1)) j (some q.1)))
theorem sPar2R_eq : @sPar2R = @sPar2 := by
  unfold sPar2R sPar2
  first | rfl | (simp only [slotR_eq, setR_eq, forceE_eq, resR_eq, eVarR_eq, eFrzR_eq, pSR_eq, eOp1R_eq, eOp2R_eq, bOp2R_eq, bTruR_eq, aOwnR_eq, putBackR_eq, clearER_eq, eCallR_eq, tNameR_eq, wipeER_eq, backER_eq, plainER_eq, compLoopR_eq, eCompR_eq, compLoop2R_eq, eComp2R_eq, sSetR_eq, sSetFR_eq]; done) | (simp only [slotR_eq, setR_eq, forceE_eq, resR_eq, eVarR_eq, eFrzR_eq, pSR_eq, eOp1R_eq, eOp2R_eq, bOp2R_eq, bTruR_eq, aOwnR_eq, putBackR_eq, clearER_eq, eCallR_eq, tNameR_eq, wipeER_eq, backER_eq, plainER_eq, compLoopR_eq, eCompR_eq, compLoop2R_eq, eComp2R_eq, sSetR_eq, sSetFR_eq]; rfl)
noncomputable def sPar3R (i j k : Nat) (a b c : Ex) : Sx := fun e => (a e).bind fun p => (b p.2).bind fun q => (c q.2).bind fun r => some (.nx ((setR (setR r.2 i (some p.1)) j (some q.1)).set k (some r.1)))
/-- a value known from now on -/
theorem sPar3R_eq : @sPar3R = @sPar3 := by
  unfold sPar3R sPar3
  first | rfl | (simp only [slotR_eq, setR_eq, forceE_eq, resR_eq, eVarR_eq, eFrzR_eq, pSR_eq, eOp1R_eq, eOp2R_eq, bOp2R_eq, bTruR_eq, aOwnR_eq, putBackR_eq, clearER_eq, eCallR_eq, tNameR_eq, wipeER_eq, backER_eq, plainER_eq, compLoopR_eq, eCompR_eq, compLoop2R_eq, eComp2R_eq, sSetR_eq, sSetFR_eq, sPar2R_eq]; done) | (simp only [slotR_eq, setR_eq, forceE_eq, resR_eq, eVarR_eq, eFrzR_eq, pSR_eq, eOp1R_eq, eOp2R_eq, bOp2R_eq, bTruR_eq, aOwnR_eq, putBackR_eq, clearER_eq, eCallR_eq, tNameR_eq, wipeER_eq, backER_eq, plainER_eq, compLoopR_eq, eCompR_eq, compLoop2R_eq, eComp2R_eq, sSetR_eq, sSetFR_eq, sPar2R_eq]; rfl)
noncomputable def oNameR (i : Nat) : TgO := fun o e => some (setR e i (some o))
theorem oNameR_eq : @oNameR = @oName := by
  unfold oNameR oName
  first | rfl | (simp only [slotR_eq, setR_eq, forceE_eq, resR_eq, eVarR_eq, eFrzR_eq, pSR_eq, eOp1R_eq, eOp2R_eq, bOp2R_eq, bTruR_eq, aOwnR_eq, putBackR_eq, clearER_eq, eCallR_eq, tNameR_eq, wipeER_eq, backER_eq, plainER_eq, compLoopR_eq, eCompR_eq, compLoop2R_eq, eComp2R_eq, sSetR_eq, sSetFR_eq, sPar2R_eq, sPar3R_eq]; done) | (simp only [slotR_eq, setR_eq, forceE_eq, resR_eq, eVarR_eq, eFrzR_eq, pSR_eq, eOp1R_eq, eOp2R_eq, bOp2R_eq, bTruR_eq, aOwnR_eq, putBackR_eq, clearER_eq, eCallR_eq, tNameR_eq, wipeER_eq, backER_eq, plainER_eq, compLoopR_eq, eCompR_eq, compLoop2R_eq, eComp2R_eq, sSetR_eq, sSetFR_eq, sPar2R_eq, sPar3R_eq]; rfl)
noncomputable def oSubR (j : Nat) (i : Ex) : TgO := fun v e => (slotR e j).bind fun _ => (i e).bind fun q => (slotR q.2 j).bind fun o => (oOwn o).bind fun xs =>
  (frz v).bind fun y => (oInt q.1).bind fun k => (L2.ixN xs.length k).bind fun n => some (setR q.2 j (some (.l (xs.set n y))))
/-- x[i] = v -/
theorem oSubR_eq : @oSubR = @oSub := by
  unfold oSubR oSub
  first | rfl | (simp only [slotR_eq, setR_eq, forceE_eq, resR_eq, eVarR_eq, eFrzR_eq, pSR_eq, eOp1R_eq, eOp2R_eq, bOp2R_eq, bTruR_eq, aOwnR_eq, putBackR_eq, clearER_eq, eCallR_eq, tNameR_eq, wipeER_eq, backER_eq, plainER_eq, compLoopR_eq, eCompR_eq, compLoop2R_eq, eComp2R_eq, sSetR_eq, sSetFR_eq, sPar2R_eq, sPar3R_eq, oNameR_eq]; done) | (simp only [slotR_eq, setR_eq, forceE_eq, resR_eq, eVarR_eq, eFrzR_eq, pSR_eq, eOp1R_eq, eOp2R_eq, bOp2R_eq, bTruR_eq, aOwnR_eq, putBackR_eq, clearER_eq, eCallR_eq, tNameR_eq, wipeER_eq, backER_eq, plainER_eq, compLoopR_eq, eCompR_eq, compLoop2R_eq, eComp2R_eq, sSetR_eq, sSetFR_eq, sPar2R_eq, sPar3R_eq, oNameR_eq]; rfl)
noncomputable def sSubR (j : Nat) (i v : Ex) : Sx := fun e => (v e).bind fun p => (slotR p.2 j).bind fun _ => (i p.2).bind fun q => (slotR q.2 j).bind fun o => (oOwn o).bind fun xs =>
  (frz p.1).bind fun y => (oInt q.1).bind fun k => (L2.ixN xs.length k).bind fun n => some (.nx (setR q.2 j (some (.l (xs.set n y)))))
theorem sSubR_eq : @sSubR = @sSub := by
  unfold sSubR sSub
  first | rfl | (simp only [slotR_eq, setR_eq, forceE_eq, resR_eq, eVarR_eq, eFrzR_eq, pSR_eq, eOp1R_eq, eOp2R_eq, bOp2R_eq, bTruR_eq, aOwnR_eq, putBackR_eq, clearER_eq, eCallR_eq, tNameR_eq, wipeER_eq, backER_eq, plainER_eq, compLoopR_eq, eCompR_eq, compLoop2R_eq, eComp2R_eq, sSetR_eq, sSetFR_eq, sPar2R_eq, sPar3R_eq, oNameR_eq, oSubR_eq]; done) | (simp only [slotR_eq, setR_eq, forceE_eq, resR_eq, eVarR_eq, eFrzR_eq, pSR_eq, eOp1R_eq, eOp2R_eq, bOp2R_eq, bTruR_eq, aOwnR_eq, putBackR_eq, clearER_eq, eCallR_eq, tNameR_eq, wipeER_eq, backER_eq, plainER_eq, compLoopR_eq, eCompR_eq, compLoop2R_eq, eComp2R_eq, sSetR_eq, sSetFR_eq, sPar2R_eq, sPar3R_eq, oNameR_eq, oSubR_eq]; rfl)
noncomputable def sAppR (j : Nat) (v : Ex) : Sx := fun e => (slotR e j).bind fun o0 => (oOwn o0).bind fun _ => (v e).bind fun p => (slotR p.2 j).bind fun o => (oOwn o).bind fun xs =>
  (frz p.1).bind fun y => if xs.length < 1000000 then some (.nx (setR p.2 j (some (.l (xs ++ [y]))))) else none
theorem sAppR_eq : @sAppR = @sApp := by
  unfold sAppR sApp
  first | rfl | (simp only [slotR_eq, setR_eq, forceE_eq, resR_eq, eVarR_eq, eFrzR_eq, pSR_eq, eOp1R_eq, eOp2R_eq, bOp2R_eq, bTruR_eq, aOwnR_eq, putBackR_eq, clearER_eq, eCallR_eq, tNameR_eq, wipeER_eq, backER_eq, plainER_eq, compLoopR_eq, eCompR_eq, compLoop2R_eq, eComp2R_eq, sSetR_eq, sSetFR_eq, sPar2R_eq, sPar3R_eq, oNameR_eq, oSubR_eq, sSubR_eq]; done) | (simp only [slotR_eq, setR_eq, forceE_eq, resR_eq, eVarR_eq, eFrzR_eq, pSR_eq, eOp1R_eq, eOp2R_eq, bOp2R_eq, bTruR_eq, aOwnR_eq, putBackR_eq, clearER_eq, eCallR_eq, tNameR_eq, wipeER_eq, backER_eq, plainER_eq, compLoopR_eq, eCompR_eq, compLoop2R_eq, eComp2R_eq, sSetR_eq, sSetFR_eq, sPar2R_eq, sPar3R_eq, oNameR_eq, oSubR_eq, sSubR_eq]; rfl)
noncomputable def sRetSR (j : Nat) : Sx := fun e => (slotR e j).bind fun o => some (.rt o (setR e j none))
theorem sRetSR_eq : @sRetSR = @sRetS := by
  unfold sRetSR sRetS
  first | rfl | (simp only [slotR_eq, setR_eq, forceE_eq, resR_eq, eVarR_eq, eFrzR_eq, pSR_eq, eOp1R_eq, eOp2R_eq, bOp2R_eq, bTruR_eq, aOwnR_eq, putBackR_eq, clearER_eq, eCallR_eq, tNameR_eq, wipeER_eq, backER_eq, plainER_eq, compLoopR_eq, eCompR_eq, compLoop2R_eq, eComp2R_eq, sSetR_eq, sSetFR_eq, sPar2R_eq, sPar3R_eq, oNameR_eq, oSubR_eq, sSubR_eq, sAppR_eq]; done) | (simp only [slotR_eq, setR_eq, forceE_eq, resR_eq, eVarR_eq, eFrzR_eq, pSR_eq, eOp1R_eq, eOp2R_eq, bOp2R_eq, bTruR_eq, aOwnR_eq, putBackR_eq, clearER_eq, eCallR_eq, tNameR_eq, wipeER_eq, backER_eq, plainER_eq, compLoopR_eq, eCompR_eq, compLoop2R_eq, eComp2R_eq, sSetR_eq, sSetFR_eq, sPar2R_eq, sPar3R_eq, oNameR_eq, oSubR_eq, sSubR_eq, sAppR_eq]; rfl)
noncomputable def finsR (lk : Nat → Bool) (e : Ev) : Nat → List (Option O)
  | 0 => []
  | n + 1 => finsR lk e n ++ [if lk n = true then slotR e n else none]
/-- a def: n slots, np parameters; lk: the parameters that no row of it stores to -/
--PROOF fins
theorem finsR_eq : @finsR = @fins := by
  funext lk e n
  induction n with
  | zero => rfl
  | succ n ih =>
    unfold finsR fins
    rw [slotR_eq, ih]
noncomputable def runDefR (n np : Nat) (lk : Nat → Bool) (body : Sx) : Fn := fun os => if os.length = np then (body (os.map some ++ List.replicate (n - np) none)).bind fun o => match o with
  | .rt r e => some (r, finsR lk e np)
  | .nx e => some (.d .none, finsR lk e np)
  | .bk _ => none
  | .ex _ _ => none
  else none
/-- a def that may raise -/
theorem runDefR_eq : @runDefR = @runDef := by
  unfold runDefR runDef
  first | rfl | (simp only [slotR_eq, setR_eq, forceE_eq, resR_eq, eVarR_eq, eFrzR_eq, pSR_eq, eOp1R_eq, eOp2R_eq, bOp2R_eq, bTruR_eq, aOwnR_eq, putBackR_eq, clearER_eq, eCallR_eq, tNameR_eq, wipeER_eq, backER_eq, plainER_eq, compLoopR_eq, eCompR_eq, compLoop2R_eq, eComp2R_eq, sSetR_eq, sSetFR_eq, sPar2R_eq, sPar3R_eq, oNameR_eq, oSubR_eq, sSubR_eq, sAppR_eq, sRetSR_eq, finsR_eq]; done) | (simp only [slotR_eq, setR_eq, forceE_eq, resR_eq, eVarR_eq, eFrzR_eq, pSR_eq, eOp1R_eq, eOp2R_eq, bOp2R_eq, bTruR_eq, aOwnR_eq, putBackR_eq, clearER_eq, eCallR_eq, tNameR_eq, wipeER_eq, backER_eq, plainER_eq, compLoopR_eq, eCompR_eq, compLoop2R_eq, eComp2R_eq, sSetR_eq, sSetFR_eq, sPar2R_eq, sPar3R_eq, oNameR_eq, oSubR_eq, sSubR_eq, sAppR_eq, sRetSR_eq, finsR_eq]; rfl)
noncomputable def eCutR (a : ExP) (lo hi : ExH) : Ex := fun e => (a e).bind fun p => (lo p.2).bind fun q => (hi q.2).bind fun r => (resR r.2 p.1).bind fun x => (gCut x q.1 r.1).bind fun z => some (z, r.2)
theorem eCutR_eq : @eCutR = @eCut := by
  unfold eCutR eCut
  first | rfl | (simp only [slotR_eq, setR_eq, forceE_eq, resR_eq, eVarR_eq, eFrzR_eq, pSR_eq, eOp1R_eq, eOp2R_eq, bOp2R_eq, bTruR_eq, aOwnR_eq, putBackR_eq, clearER_eq, eCallR_eq, tNameR_eq, wipeER_eq, backER_eq, plainER_eq, compLoopR_eq, eCompR_eq, compLoop2R_eq, eComp2R_eq, sSetR_eq, sSetFR_eq, sPar2R_eq, sPar3R_eq, oNameR_eq, oSubR_eq, sSubR_eq, sAppR_eq, sRetSR_eq, finsR_eq, runDefR_eq]; done) | (simp only [slotR_eq, setR_eq, forceE_eq, resR_eq, eVarR_eq, eFrzR_eq, pSR_eq, eOp1R_eq, eOp2R_eq, bOp2R_eq, bTruR_eq, aOwnR_eq, putBackR_eq, clearER_eq, eCallR_eq, tNameR_eq, wipeER_eq, backER_eq, plainER_eq, compLoopR_eq, eCompR_eq, compLoop2R_eq, eComp2R_eq, sSetR_eq, sSetFR_eq, sPar2R_eq, sPar3R_eq, oNameR_eq, oSubR_eq, sSubR_eq, sAppR_eq, sRetSR_eq, finsR_eq, runDefR_eq]; rfl)
noncomputable def eGet2R (j : Nat) (fk fx : Ex) : Ex := fun e => (slotR e j).bind fun o0 => (oDct o0).bind fun _ => (fk e).bind fun p => (fx p.2).bind fun q => (slotR q.2 j).bind fun o => (oDct o).bind fun c => (oD p.1).bind fun k => (oD q.1).bind fun z =>
  if keyOk c.1 k = true then some (.d ((dFind c.2 k).getD z), q.2) else none
/-- d[k] = v -/
theorem eGet2R_eq : @eGet2R = @eGet2 := by
  unfold eGet2R eGet2
  first | rfl | (simp only [slotR_eq, setR_eq, forceE_eq, resR_eq, eVarR_eq, eFrzR_eq, pSR_eq, eOp1R_eq, eOp2R_eq, bOp2R_eq, bTruR_eq, aOwnR_eq, putBackR_eq, clearER_eq, eCallR_eq, tNameR_eq, wipeER_eq, backER_eq, plainER_eq, compLoopR_eq, eCompR_eq, compLoop2R_eq, eComp2R_eq, sSetR_eq, sSetFR_eq, sPar2R_eq, sPar3R_eq, oNameR_eq, oSubR_eq, sSubR_eq, sAppR_eq, sRetSR_eq, finsR_eq, runDefR_eq, eCutR_eq]; done) | (simp only [slotR_eq, setR_eq, forceE_eq, resR_eq, eVarR_eq, eFrzR_eq, pSR_eq, eOp1R_eq, eOp2R_eq, bOp2R_eq, bTruR_eq, aOwnR_eq, putBackR_eq, clearER_eq, eCallR_eq, tNameR_eq, wipeER_eq, backER_eq, plainER_eq, compLoopR_eq, eCompR_eq, compLoop2R_eq, eComp2R_eq, sSetR_eq, sSetFR_eq, sPar2R_eq, sPar3R_eq, oNameR_eq, oSubR_eq, sSubR_eq, sAppR_eq, sRetSR_eq, finsR_eq, runDefR_eq, eCutR_eq]; rfl)
noncomputable def sDPut'R (j : Nat) (fk fv : Ex) : Sx := fun e => (fv e).bind fun p => (slotR p.2 j).bind fun _ => (fk p.2).bind fun q => (slotR q.2 j).bind fun o => (match o with
  | .m t kvs => (oD q.1).bind fun k => (frz p.1).bind fun y => if keyOk t k = true ∧ kvs.length < 1000000 then some (.nx (setR q.2 j (some (.m t (dPut kvs k y))))) else none
  | _ => none)
/-- {k: v} -/
theorem sDPut'R_eq : @sDPut'R = @sDPut' := by
  unfold sDPut'R sDPut'
  first | rfl | (simp only [slotR_eq, setR_eq, forceE_eq, resR_eq, eVarR_eq, eFrzR_eq, pSR_eq, eOp1R_eq, eOp2R_eq, bOp2R_eq, bTruR_eq, aOwnR_eq, putBackR_eq, clearER_eq, eCallR_eq, tNameR_eq, wipeER_eq, backER_eq, plainER_eq, compLoopR_eq, eCompR_eq, compLoop2R_eq, eComp2R_eq, sSetR_eq, sSetFR_eq, sPar2R_eq, sPar3R_eq, oNameR_eq, oSubR_eq, sSubR_eq, sAppR_eq, sRetSR_eq, finsR_eq, runDefR_eq, eCutR_eq, eGet2R_eq]; done) | (simp only [slotR_eq, setR_eq, forceE_eq, resR_eq, eVarR_eq, eFrzR_eq, pSR_eq, eOp1R_eq, eOp2R_eq, bOp2R_eq, bTruR_eq, aOwnR_eq, putBackR_eq, clearER_eq, eCallR_eq, tNameR_eq, wipeER_eq, backER_eq, plainER_eq, compLoopR_eq, eCompR_eq, compLoop2R_eq, eComp2R_eq, sSetR_eq, sSetFR_eq, sPar2R_eq, sPar3R_eq, oNameR_eq, oSubR_eq, sSubR_eq, sAppR_eq, sRetSR_eq, finsR_eq, runDefR_eq, eCutR_eq, eGet2R_eq]; rfl)
noncomputable def sLockR (j : Nat) (f : Sx) : Sx := fun e => match slotR e j with
  | some (.m t kvs) => (f (setR e j (some (.k t kvs)))).bind fun o => (match o with
    | .nx e1 => if noK (setR e1 j none) = true then some (.nx (setR e1 j none)) else none
    | .rt r e1 => if noK (setR e1 j none) = true ∧ isWk r = false then some (.rt r (setR e1 j none)) else none
    | .bk _ => none
    | .ex _ _ => none)
  | _ => none
theorem sLockR_eq : @sLockR = @sLock := by
  unfold sLockR sLock
  first | rfl | (simp only [slotR_eq, setR_eq, forceE_eq, resR_eq, eVarR_eq, eFrzR_eq, pSR_eq, eOp1R_eq, eOp2R_eq, bOp2R_eq, bTruR_eq, aOwnR_eq, putBackR_eq, clearER_eq, eCallR_eq, tNameR_eq, wipeER_eq, backER_eq, plainER_eq, compLoopR_eq, eCompR_eq, compLoop2R_eq, eComp2R_eq, sSetR_eq, sSetFR_eq, sPar2R_eq, sPar3R_eq, oNameR_eq, oSubR_eq, sSubR_eq, sAppR_eq, sRetSR_eq, finsR_eq, runDefR_eq, eCutR_eq, eGet2R_eq, sDPut'R_eq]; done) | (simp only [slotR_eq, setR_eq, forceE_eq, resR_eq, eVarR_eq, eFrzR_eq, pSR_eq, eOp1R_eq, eOp2R_eq, bOp2R_eq, bTruR_eq, aOwnR_eq, putBackR_eq, clearER_eq, eCallR_eq, tNameR_eq, wipeER_eq, backER_eq, plainER_eq, compLoopR_eq, eCompR_eq, compLoop2R_eq, eComp2R_eq, sSetR_eq, sSetFR_eq, sPar2R_eq, sPar3R_eq, oNameR_eq, oSubR_eq, sSubR_eq, sAppR_eq, sRetSR_eq, finsR_eq, runDefR_eq, eCutR_eq, eGet2R_eq, sDPut'R_eq]; rfl)
noncomputable def iDictR (j : Nat) : ExI := fun e => match slotR e j with
  | some (.k false kvs) => some (kvs.map (·.1), e)
  | _ => none
/-- x = y, y's thing moved -/
theorem iDictR_eq : @iDictR = @iDict := by
  unfold iDictR iDict
  first | rfl | (simp only [slotR_eq, setR_eq, forceE_eq, resR_eq, eVarR_eq, eFrzR_eq, pSR_eq, eOp1R_eq, eOp2R_eq, bOp2R_eq, bTruR_eq, aOwnR_eq, putBackR_eq, clearER_eq, eCallR_eq, tNameR_eq, wipeER_eq, backER_eq, plainER_eq, compLoopR_eq, eCompR_eq, compLoop2R_eq, eComp2R_eq, sSetR_eq, sSetFR_eq, sPar2R_eq, sPar3R_eq, oNameR_eq, oSubR_eq, sSubR_eq, sAppR_eq, sRetSR_eq, finsR_eq, runDefR_eq, eCutR_eq, eGet2R_eq, sDPut'R_eq, sLockR_eq]; done) | (simp only [slotR_eq, setR_eq, forceE_eq, resR_eq, eVarR_eq, eFrzR_eq, pSR_eq, eOp1R_eq, eOp2R_eq, bOp2R_eq, bTruR_eq, aOwnR_eq, putBackR_eq, clearER_eq, eCallR_eq, tNameR_eq, wipeER_eq, backER_eq, plainER_eq, compLoopR_eq, eCompR_eq, compLoop2R_eq, eComp2R_eq, sSetR_eq, sSetFR_eq, sPar2R_eq, sPar3R_eq, oNameR_eq, oSubR_eq, sSubR_eq, sAppR_eq, sRetSR_eq, finsR_eq, runDefR_eq, eCutR_eq, eGet2R_eq, sDPut'R_eq, sLockR_eq]; rfl)
noncomputable def sMoveR (i j : Nat) : Sx := fun e => (slotR e j).bind fun o => some (.nx (setR (setR e j none) i (some o)))
theorem sMoveR_eq : @sMoveR = @sMove := by
  unfold sMoveR sMove
  first | rfl | (simp only [slotR_eq, setR_eq, forceE_eq, resR_eq, eVarR_eq, eFrzR_eq, pSR_eq, eOp1R_eq, eOp2R_eq, bOp2R_eq, bTruR_eq, aOwnR_eq, putBackR_eq, clearER_eq, eCallR_eq, tNameR_eq, wipeER_eq, backER_eq, plainER_eq, compLoopR_eq, eCompR_eq, compLoop2R_eq, eComp2R_eq, sSetR_eq, sSetFR_eq, sPar2R_eq, sPar3R_eq, oNameR_eq, oSubR_eq, sSubR_eq, sAppR_eq, sRetSR_eq, finsR_eq, runDefR_eq, eCutR_eq, eGet2R_eq, sDPut'R_eq, sLockR_eq, iDictR_eq]; done) | (simp only [slotR_eq, setR_eq, forceE_eq, resR_eq, eVarR_eq, eFrzR_eq, pSR_eq, eOp1R_eq, eOp2R_eq, bOp2R_eq, bTruR_eq, aOwnR_eq, putBackR_eq, clearER_eq, eCallR_eq, tNameR_eq, wipeER_eq, backER_eq, plainER_eq, compLoopR_eq, eCompR_eq, compLoop2R_eq, eComp2R_eq, sSetR_eq, sSetFR_eq, sPar2R_eq, sPar3R_eq, oNameR_eq, oSubR_eq, sSubR_eq, sAppR_eq, sRetSR_eq, finsR_eq, runDefR_eq, eCutR_eq, eGet2R_eq, sDPut'R_eq, sLockR_eq, iDictR_eq]; rfl)
noncomputable def genLoopR (own : List Nat) (tg : Tg) (cond : ExB) (elt : Ex) (stop : Bool) : List D → Ev → Option (Bool × Ev)
  | [], e => some (!stop, e)
  | x :: xs, e => (tg x e).bind fun e1 => (cond e1).bind fun p =>
    if p.1 = true then (elt p.2).bind fun q => (oBool q.1).bind fun b => if b = stop then some (stop, wipeER q.2 own) else genLoopR own tg cond elt stop xs (wipeER q.2 own)
    else genLoopR own tg cond elt stop xs (wipeER p.2 own)
--PROOF genLoop
theorem genLoopR_eq : @genLoopR = @genLoop := by
  funext own tg cond elt st ds e
  induction ds generalizing e with
  | nil => rfl
  | cons x xs ih =>
    unfold genLoopR genLoop
    simp only [wipeER_eq, ih]
noncomputable def eGenBR (own : List Nat) (it : ExI) (tg : Tg) (cond : ExB) (elt : Ex) (stop : Bool) : Ex := fun e => (it e).bind fun p => if p.1.length ≤ 1000000 ∧ plainER p.2 own = true then
  (genLoopR own tg cond elt stop p.1 (wipeER p.2 own)).bind fun r => some (.d (.bool r.1), backER p.2 r.2 own) else none

/-! ### relations -/
theorem eGenBR_eq : @eGenBR = @eGenB := by
  unfold eGenBR eGenB
  first | rfl | (simp only [slotR_eq, setR_eq, forceE_eq, resR_eq, eVarR_eq, eFrzR_eq, pSR_eq, eOp1R_eq, eOp2R_eq, bOp2R_eq, bTruR_eq, aOwnR_eq, putBackR_eq, clearER_eq, eCallR_eq, tNameR_eq, wipeER_eq, backER_eq, plainER_eq, compLoopR_eq, eCompR_eq, compLoop2R_eq, eComp2R_eq, sSetR_eq, sSetFR_eq, sPar2R_eq, sPar3R_eq, oNameR_eq, oSubR_eq, sSubR_eq, sAppR_eq, sRetSR_eq, finsR_eq, runDefR_eq, eCutR_eq, eGet2R_eq, sDPut'R_eq, sLockR_eq, iDictR_eq, sMoveR_eq, genLoopR_eq]; done) | (simp only [slotR_eq, setR_eq, forceE_eq, resR_eq, eVarR_eq, eFrzR_eq, pSR_eq, eOp1R_eq, eOp2R_eq, bOp2R_eq, bTruR_eq, aOwnR_eq, putBackR_eq, clearER_eq, eCallR_eq, tNameR_eq, wipeER_eq, backER_eq, plainER_eq, compLoopR_eq, eCompR_eq, compLoop2R_eq, eComp2R_eq, sSetR_eq, sSetFR_eq, sPar2R_eq, sPar3R_eq, oNameR_eq, oSubR_eq, sSubR_eq, sAppR_eq, sRetSR_eq, finsR_eq, runDefR_eq, eCutR_eq, eGet2R_eq, sDPut'R_eq, sLockR_eq, iDictR_eq, sMoveR_eq, genLoopR_eq]; rfl)
noncomputable def sumLoopR (own : List Nat) (tg : Tg) (cond : ExB) (elt : Ex) : List D → Ev → Option (Int × Ev)
  | [], e => some (0, e)
  | x :: xs, e => (tg x e).bind fun e1 => (cond e1).bind fun p =>
    if p.1 = true then (elt p.2).bind fun q => (oInt q.1).bind fun b => (sumLoopR own tg cond elt xs (wipeER q.2 own)).bind fun r => some (b + r.1, r.2)
    else sumLoopR own tg cond elt xs (wipeER p.2 own)
--PROOF sumLoop
theorem sumLoopR_eq : @sumLoopR = @sumLoop := by
  funext own tg cond elt ds e
  induction ds generalizing e with
  | nil => rfl
  | cons x xs ih =>
    unfold sumLoopR sumLoop
    simp only [wipeER_eq, ih]
noncomputable def eGenSR (own : List Nat) (it : ExI) (tg : Tg) (cond : ExB) (elt : Ex) : Ex := fun e => (it e).bind fun p => if p.1.length ≤ 1000000 ∧ plainER p.2 own = true then
  (sumLoopR own tg cond elt p.1 (wipeER p.2 own)).bind fun r => some (.d (.int r.1), backER p.2 r.2 own) else none
theorem eGenSR_eq : @eGenSR = @eGenS := by
  unfold eGenSR eGenS
  first | rfl | (simp only [slotR_eq, setR_eq, forceE_eq, resR_eq, eVarR_eq, eFrzR_eq, pSR_eq, eOp1R_eq, eOp2R_eq, bOp2R_eq, bTruR_eq, aOwnR_eq, putBackR_eq, clearER_eq, eCallR_eq, tNameR_eq, wipeER_eq, backER_eq, plainER_eq, compLoopR_eq, eCompR_eq, compLoop2R_eq, eComp2R_eq, sSetR_eq, sSetFR_eq, sPar2R_eq, sPar3R_eq, oNameR_eq, oSubR_eq, sSubR_eq, sAppR_eq, sRetSR_eq, finsR_eq, runDefR_eq, eCutR_eq, eGet2R_eq, sDPut'R_eq, sLockR_eq, iDictR_eq, sMoveR_eq, genLoopR_eq, eGenBR_eq, sumLoopR_eq]; done) | (simp only [slotR_eq, setR_eq, forceE_eq, resR_eq, eVarR_eq, eFrzR_eq, pSR_eq, eOp1R_eq, eOp2R_eq, bOp2R_eq, bTruR_eq, aOwnR_eq, putBackR_eq, clearER_eq, eCallR_eq, tNameR_eq, wipeER_eq, backER_eq, plainER_eq, compLoopR_eq, eCompR_eq, compLoop2R_eq, eComp2R_eq, sSetR_eq, sSetFR_eq, sPar2R_eq, sPar3R_eq, oNameR_eq, oSubR_eq, sSubR_eq, sAppR_eq, sRetSR_eq, finsR_eq, runDefR_eq, eCutR_eq, eGet2R_eq, sDPut'R_eq, sLockR_eq, iDictR_eq, sMoveR_eq, genLoopR_eq, eGenBR_eq, sumLoopR_eq]; rfl)
noncomputable def ePopR (j : Nat) : Ex := fun e => (slotR e j).bind fun o => (oOwn o).bind fun xs => (xs[xs.length - 1]?).bind fun y => some (.d y, e.set j (some (.l xs.dropLast)))
theorem ePopR_eq : @ePopR = @ePop := by
  unfold ePopR ePop
  first | rfl | (simp only [slotR_eq, setR_eq, forceE_eq, resR_eq, eVarR_eq, eFrzR_eq, pSR_eq, eOp1R_eq, eOp2R_eq, bOp2R_eq, bTruR_eq, aOwnR_eq, putBackR_eq, clearER_eq, eCallR_eq, tNameR_eq, wipeER_eq, backER_eq, plainER_eq, compLoopR_eq, eCompR_eq, compLoop2R_eq, eComp2R_eq, sSetR_eq, sSetFR_eq, sPar2R_eq, sPar3R_eq, oNameR_eq, oSubR_eq, sSubR_eq, sAppR_eq, sRetSR_eq, finsR_eq, runDefR_eq, eCutR_eq, eGet2R_eq, sDPut'R_eq, sLockR_eq, iDictR_eq, sMoveR_eq, genLoopR_eq, eGenBR_eq, sumLoopR_eq, eGenSR_eq]; done) | (simp only [slotR_eq, setR_eq, forceE_eq, resR_eq, eVarR_eq, eFrzR_eq, pSR_eq, eOp1R_eq, eOp2R_eq, bOp2R_eq, bTruR_eq, aOwnR_eq, putBackR_eq, clearER_eq, eCallR_eq, tNameR_eq, wipeER_eq, backER_eq, plainER_eq, compLoopR_eq, eCompR_eq, compLoop2R_eq, eComp2R_eq, sSetR_eq, sSetFR_eq, sPar2R_eq, sPar3R_eq, oNameR_eq, oSubR_eq, sSubR_eq, sAppR_eq, sRetSR_eq, finsR_eq, runDefR_eq, eCutR_eq, eGet2R_eq, sDPut'R_eq, sLockR_eq, iDictR_eq, sMoveR_eq, genLoopR_eq, eGenBR_eq, sumLoopR_eq, eGenSR_eq]; rfl)
noncomputable def eIdxR (fa : ExP) (fb : Ex) : Ex := fun e => (fa e).bind fun p => (resR p.2 p.1).bind fun o1 => (oLst o1).bind fun _ => (fb p.2).bind fun q => (resR q.2 p.1).bind fun x => (oLst x).bind fun xs => (oDat q.1).bind fun dy =>
  if SeqAt.shaped (.list xs) = true ∧ SeqAt.shaped dy = true then (idxD xs dy).bind fun j => some (.d (.int (j : Nat)), q.2) else none
theorem eIdxR_eq : @eIdxR = @eIdx := by
  unfold eIdxR eIdx
  first | rfl | (simp only [slotR_eq, setR_eq, forceE_eq, resR_eq, eVarR_eq, eFrzR_eq, pSR_eq, eOp1R_eq, eOp2R_eq, bOp2R_eq, bTruR_eq, aOwnR_eq, putBackR_eq, clearER_eq, eCallR_eq, tNameR_eq, wipeER_eq, backER_eq, plainER_eq, compLoopR_eq, eCompR_eq, compLoop2R_eq, eComp2R_eq, sSetR_eq, sSetFR_eq, sPar2R_eq, sPar3R_eq, oNameR_eq, oSubR_eq, sSubR_eq, sAppR_eq, sRetSR_eq, finsR_eq, runDefR_eq, eCutR_eq, eGet2R_eq, sDPut'R_eq, sLockR_eq, iDictR_eq, sMoveR_eq, genLoopR_eq, eGenBR_eq, sumLoopR_eq, eGenSR_eq, ePopR_eq]; done) | (simp only [slotR_eq, setR_eq, forceE_eq, resR_eq, eVarR_eq, eFrzR_eq, pSR_eq, eOp1R_eq, eOp2R_eq, bOp2R_eq, bTruR_eq, aOwnR_eq, putBackR_eq, clearER_eq, eCallR_eq, tNameR_eq, wipeER_eq, backER_eq, plainER_eq, compLoopR_eq, eCompR_eq, compLoop2R_eq, eComp2R_eq, sSetR_eq, sSetFR_eq, sPar2R_eq, sPar3R_eq, oNameR_eq, oSubR_eq, sSubR_eq, sAppR_eq, sRetSR_eq, finsR_eq, runDefR_eq, eCutR_eq, eGet2R_eq, sDPut'R_eq, sLockR_eq, iDictR_eq, sMoveR_eq, genLoopR_eq, eGenBR_eq, sumLoopR_eq, eGenSR_eq, ePopR_eq]; rfl)
noncomputable def kVarR (j : Nat) : ExK := fun e => (slotR e j).bind oInt
theorem kVarR_eq : @kVarR = @kVar := by
  unfold kVarR kVar
  first | rfl | (simp only [slotR_eq, setR_eq, forceE_eq, resR_eq, eVarR_eq, eFrzR_eq, pSR_eq, eOp1R_eq, eOp2R_eq, bOp2R_eq, bTruR_eq, aOwnR_eq, putBackR_eq, clearER_eq, eCallR_eq, tNameR_eq, wipeER_eq, backER_eq, plainER_eq, compLoopR_eq, eCompR_eq, compLoop2R_eq, eComp2R_eq, sSetR_eq, sSetFR_eq, sPar2R_eq, sPar3R_eq, oNameR_eq, oSubR_eq, sSubR_eq, sAppR_eq, sRetSR_eq, finsR_eq, runDefR_eq, eCutR_eq, eGet2R_eq, sDPut'R_eq, sLockR_eq, iDictR_eq, sMoveR_eq, genLoopR_eq, eGenBR_eq, sumLoopR_eq, eGenSR_eq, ePopR_eq, eIdxR_eq]; done) | (simp only [slotR_eq, setR_eq, forceE_eq, resR_eq, eVarR_eq, eFrzR_eq, pSR_eq, eOp1R_eq, eOp2R_eq, bOp2R_eq, bTruR_eq, aOwnR_eq, putBackR_eq, clearER_eq, eCallR_eq, tNameR_eq, wipeER_eq, backER_eq, plainER_eq, compLoopR_eq, eCompR_eq, compLoop2R_eq, eComp2R_eq, sSetR_eq, sSetFR_eq, sPar2R_eq, sPar3R_eq, oNameR_eq, oSubR_eq, sSubR_eq, sAppR_eq, sRetSR_eq, finsR_eq, runDefR_eq, eCutR_eq, eGet2R_eq, sDPut'R_eq, sLockR_eq, iDictR_eq, sMoveR_eq, genLoopR_eq, eGenBR_eq, sumLoopR_eq, eGenSR_eq, ePopR_eq, eIdxR_eq]; rfl)
noncomputable def eItem2R (j : Nat) (i k : ExK) : Ex := fun e => (slotR e j).bind fun o => (oGr o).bind fun rows => (i e).bind fun a => (k e).bind fun b =>
  (L2.atI rows a).bind fun xs => (L2.atI xs b).bind fun z => some (.d z, e)
/-- the grid with one cell changed -/
theorem eItem2R_eq : @eItem2R = @eItem2 := by
  unfold eItem2R eItem2
  first | rfl | (simp only [slotR_eq, setR_eq, forceE_eq, resR_eq, eVarR_eq, eFrzR_eq, pSR_eq, eOp1R_eq, eOp2R_eq, bOp2R_eq, bTruR_eq, aOwnR_eq, putBackR_eq, clearER_eq, eCallR_eq, tNameR_eq, wipeER_eq, backER_eq, plainER_eq, compLoopR_eq, eCompR_eq, compLoop2R_eq, eComp2R_eq, sSetR_eq, sSetFR_eq, sPar2R_eq, sPar3R_eq, oNameR_eq, oSubR_eq, sSubR_eq, sAppR_eq, sRetSR_eq, finsR_eq, runDefR_eq, eCutR_eq, eGet2R_eq, sDPut'R_eq, sLockR_eq, iDictR_eq, sMoveR_eq, genLoopR_eq, eGenBR_eq, sumLoopR_eq, eGenSR_eq, ePopR_eq, eIdxR_eq, kVarR_eq]; done) | (simp only [slotR_eq, setR_eq, forceE_eq, resR_eq, eVarR_eq, eFrzR_eq, pSR_eq, eOp1R_eq, eOp2R_eq, bOp2R_eq, bTruR_eq, aOwnR_eq, putBackR_eq, clearER_eq, eCallR_eq, tNameR_eq, wipeER_eq, backER_eq, plainER_eq, compLoopR_eq, eCompR_eq, compLoop2R_eq, eComp2R_eq, sSetR_eq, sSetFR_eq, sPar2R_eq, sPar3R_eq, oNameR_eq, oSubR_eq, sSubR_eq, sAppR_eq, sRetSR_eq, finsR_eq, runDefR_eq, eCutR_eq, eGet2R_eq, sDPut'R_eq, sLockR_eq, iDictR_eq, sMoveR_eq, genLoopR_eq, eGenBR_eq, sumLoopR_eq, eGenSR_eq, ePopR_eq, eIdxR_eq, kVarR_eq]; rfl)
noncomputable def sSub2R (j : Nat) (i k : ExK) (v : Ex) : Sx := fun e => (v e).bind fun p => (frz p.1).bind fun y => (slotR p.2 j).bind fun o => (oGr o).bind fun rows => (i p.2).bind fun a => (k p.2).bind fun b =>
  (gPut rows a b y).bind fun rows' => some (.nx (setR p.2 j (some (.g rows'))))
theorem sSub2R_eq : @sSub2R = @sSub2 := by
  unfold sSub2R sSub2
  first | rfl | (simp only [slotR_eq, setR_eq, forceE_eq, resR_eq, eVarR_eq, eFrzR_eq, pSR_eq, eOp1R_eq, eOp2R_eq, bOp2R_eq, bTruR_eq, aOwnR_eq, putBackR_eq, clearER_eq, eCallR_eq, tNameR_eq, wipeER_eq, backER_eq, plainER_eq, compLoopR_eq, eCompR_eq, compLoop2R_eq, eComp2R_eq, sSetR_eq, sSetFR_eq, sPar2R_eq, sPar3R_eq, oNameR_eq, oSubR_eq, sSubR_eq, sAppR_eq, sRetSR_eq, finsR_eq, runDefR_eq, eCutR_eq, eGet2R_eq, sDPut'R_eq, sLockR_eq, iDictR_eq, sMoveR_eq, genLoopR_eq, eGenBR_eq, sumLoopR_eq, eGenSR_eq, ePopR_eq, eIdxR_eq, kVarR_eq, eItem2R_eq]; done) | (simp only [slotR_eq, setR_eq, forceE_eq, resR_eq, eVarR_eq, eFrzR_eq, pSR_eq, eOp1R_eq, eOp2R_eq, bOp2R_eq, bTruR_eq, aOwnR_eq, putBackR_eq, clearER_eq, eCallR_eq, tNameR_eq, wipeER_eq, backER_eq, plainER_eq, compLoopR_eq, eCompR_eq, compLoop2R_eq, eComp2R_eq, sSetR_eq, sSetFR_eq, sPar2R_eq, sPar3R_eq, oNameR_eq, oSubR_eq, sSubR_eq, sAppR_eq, sRetSR_eq, finsR_eq, runDefR_eq, eCutR_eq, eGet2R_eq, sDPut'R_eq, sLockR_eq, iDictR_eq, sMoveR_eq, genLoopR_eq, eGenBR_eq, sumLoopR_eq, eGenSR_eq, ePopR_eq, eIdxR_eq, kVarR_eq, eItem2R_eq]; rfl)
noncomputable def sAppGR (j : Nat) (v : Ex) : Sx := fun e => (slotR e j).bind fun o0 => (oGr o0).bind fun _ => (v e).bind fun p => (slotR p.2 j).bind fun o => (oGr o).bind fun rows =>
  (oOwn p.1).bind fun xs => if rows.length < 1000000 then some (.nx (setR p.2 j (some (.g (rows ++ [xs]))))) else none
/-- x[i][k] -/
theorem sAppGR_eq : @sAppGR = @sAppG := by
  unfold sAppGR sAppG
  first | rfl | (simp only [slotR_eq, setR_eq, forceE_eq, resR_eq, eVarR_eq, eFrzR_eq, pSR_eq, eOp1R_eq, eOp2R_eq, bOp2R_eq, bTruR_eq, aOwnR_eq, putBackR_eq, clearER_eq, eCallR_eq, tNameR_eq, wipeER_eq, backER_eq, plainER_eq, compLoopR_eq, eCompR_eq, compLoop2R_eq, eComp2R_eq, sSetR_eq, sSetFR_eq, sPar2R_eq, sPar3R_eq, oNameR_eq, oSubR_eq, sSubR_eq, sAppR_eq, sRetSR_eq, finsR_eq, runDefR_eq, eCutR_eq, eGet2R_eq, sDPut'R_eq, sLockR_eq, iDictR_eq, sMoveR_eq, genLoopR_eq, eGenBR_eq, sumLoopR_eq, eGenSR_eq, ePopR_eq, eIdxR_eq, kVarR_eq, eItem2R_eq, sSub2R_eq]; done) | (simp only [slotR_eq, setR_eq, forceE_eq, resR_eq, eVarR_eq, eFrzR_eq, pSR_eq, eOp1R_eq, eOp2R_eq, bOp2R_eq, bTruR_eq, aOwnR_eq, putBackR_eq, clearER_eq, eCallR_eq, tNameR_eq, wipeER_eq, backER_eq, plainER_eq, compLoopR_eq, eCompR_eq, compLoop2R_eq, eComp2R_eq, sSetR_eq, sSetFR_eq, sPar2R_eq, sPar3R_eq, oNameR_eq, oSubR_eq, sSubR_eq, sAppR_eq, sRetSR_eq, finsR_eq, runDefR_eq, eCutR_eq, eGet2R_eq, sDPut'R_eq, sLockR_eq, iDictR_eq, sMoveR_eq, genLoopR_eq, eGenBR_eq, sumLoopR_eq, eGenSR_eq, ePopR_eq, eIdxR_eq, kVarR_eq, eItem2R_eq, sSub2R_eq]; rfl)
noncomputable def iRngVR (j : Nat) : ExI := fun e => match slotR e j with
  | some (.d (.dict [(.none, .int lo), (.none, .int hi)])) => if -1000000 ≤ lo ∧ lo ≤ 1000000 ∧ -1000000 ≤ hi ∧ hi ≤ 1000000 then some (rangeD lo hi, e) else none
  | _ => none
theorem iRngVR_eq : @iRngVR = @iRngV := by
  unfold iRngVR iRngV
  first | rfl | (simp only [slotR_eq, setR_eq, forceE_eq, resR_eq, eVarR_eq, eFrzR_eq, pSR_eq, eOp1R_eq, eOp2R_eq, bOp2R_eq, bTruR_eq, aOwnR_eq, putBackR_eq, clearER_eq, eCallR_eq, tNameR_eq, wipeER_eq, backER_eq, plainER_eq, compLoopR_eq, eCompR_eq, compLoop2R_eq, eComp2R_eq, sSetR_eq, sSetFR_eq, sPar2R_eq, sPar3R_eq, oNameR_eq, oSubR_eq, sSubR_eq, sAppR_eq, sRetSR_eq, finsR_eq, runDefR_eq, eCutR_eq, eGet2R_eq, sDPut'R_eq, sLockR_eq, iDictR_eq, sMoveR_eq, genLoopR_eq, eGenBR_eq, sumLoopR_eq, eGenSR_eq, ePopR_eq, eIdxR_eq, kVarR_eq, eItem2R_eq, sSub2R_eq, sAppGR_eq]; done) | (simp only [slotR_eq, setR_eq, forceE_eq, resR_eq, eVarR_eq, eFrzR_eq, pSR_eq, eOp1R_eq, eOp2R_eq, bOp2R_eq, bTruR_eq, aOwnR_eq, putBackR_eq, clearER_eq, eCallR_eq, tNameR_eq, wipeER_eq, backER_eq, plainER_eq, compLoopR_eq, eCompR_eq, compLoop2R_eq, eComp2R_eq, sSetR_eq, sSetFR_eq, sPar2R_eq, sPar3R_eq, oNameR_eq, oSubR_eq, sSubR_eq, sAppR_eq, sRetSR_eq, finsR_eq, runDefR_eq, eCutR_eq, eGet2R_eq, sDPut'R_eq, sLockR_eq, iDictR_eq, sMoveR_eq, genLoopR_eq, eGenBR_eq, sumLoopR_eq, eGenSR_eq, ePopR_eq, eIdxR_eq, kVarR_eq, eItem2R_eq, sSub2R_eq, sAppGR_eq]; rfl)
noncomputable def forceN {α : Type} (n : Nat) (k : Nat → α) : α := Nat.rec (motive := fun _ => α) (k 0) (fun m _ => k (Nat.succ m)) n
theorem forceN_eq {α : Type} (n : Nat) (k : Nat → α) : forceN n k = k n := by cases n <;> rfl
noncomputable def forceI {α : Type} (i : Int) (k : Int → α) : α := Int.rec (motive := fun _ => α) (fun n => forceN n fun m => k (Int.ofNat m)) (fun n => forceN n fun m => k (Int.negSucc m)) i
theorem forceI_eq {α : Type} (i : Int) (k : Int → α) : forceI i k = k i := by
  cases i with
  | ofNat n => exact forceN_eq n fun m => k (Int.ofNat m)
  | negSucc n => exact forceN_eq n fun m => k (Int.negSucc m)
/-- ints made are made at once -/
noncomputable def nowO (x : Option O) : Option O := match x with
  | some (.d (.int i)) => forceI i fun k => some (.d (.int k))
  | r => r
theorem nowO_eq (x : Option O) : nowO x = x := by
  unfold nowO
  split
  · rw [forceI_eq]
  · rfl

noncomputable def gAddR (x y : O) : Option O := nowO (gAdd x y)
theorem gAddR_eq : @gAddR = @gAdd := by
  funext x y
  exact nowO_eq _
noncomputable def gSubR (x y : O) : Option O := nowO (gSub x y)
theorem gSubR_eq : @gSubR = @gSub := by
  funext x y
  exact nowO_eq _
noncomputable def gMulR (x y : O) : Option O := nowO (gMul x y)
theorem gMulR_eq : @gMulR = @gMul := by
  funext x y
  exact nowO_eq _
noncomputable def gDivR (x y : O) : Option O := nowO (gDiv x y)
theorem gDivR_eq : @gDivR = @gDiv := by
  funext x y
  exact nowO_eq _
noncomputable def gModR (x y : O) : Option O := nowO (gMod x y)
theorem gModR_eq : @gModR = @gMod := by
  funext x y
  exact nowO_eq _
noncomputable def gMin2R (x y : O) : Option O := nowO (gMin2 x y)
theorem gMin2R_eq : @gMin2R = @gMin2 := by
  funext x y
  exact nowO_eq _
noncomputable def gMax2R (x y : O) : Option O := nowO (gMax2 x y)
theorem gMax2R_eq : @gMax2R = @gMax2 := by
  funext x y
  exact nowO_eq _
noncomputable def gLenR (x : O) : Option O := nowO (gLen x)
theorem gLenR_eq : @gLenR = @gLen := by
  funext x
  exact nowO_eq _
noncomputable def gMinQR (x : O) : Option O := nowO (gMinQ x)
theorem gMinQR_eq : @gMinQR = @gMinQ := by
  funext x
  exact nowO_eq _
noncomputable def gMaxQR (x : O) : Option O := nowO (gMaxQ x)
theorem gMaxQR_eq : @gMaxQR = @gMaxQ := by
  funext x
  exact nowO_eq _
noncomputable def gSumR (x : O) : Option O := nowO (gSum x)
theorem gSumR_eq : @gSumR = @gSum := by
  funext x
  exact nowO_eq _
noncomputable def gNegR (x : O) : Option O := nowO (gNeg x)
theorem gNegR_eq : @gNegR = @gNeg := by
  funext x
  exact nowO_eq _
noncomputable def gIntR (x : O) : Option O := nowO (gInt x)
theorem gIntR_eq : @gIntR = @gInt := by
  funext x
  exact nowO_eq _
end Sh

/-! closed_walks: a quick way to the same numbers. -/
namespace Sh
open PySem
def B_covered : Sx :=
  (sSeq (sTg (tLstl [(tName 2), (tName 3)]) (eOp1 gSortT (pV (eCut (pV (eVar 0)) (hAt (eVar 1)) (hAt (eOp2 gAdd (pV (eVar 1)) (pV (eC (.int 2)))))))))
  (sRet (eListR (iRange2 (eVar 2) (eVar 3)))))
def F_covered : Fn := runDef 4 2 (fun i => [true, true].getD i false) B_covered
def B_closed_walks : Sx :=
  (sSeq (sSetF 3 (eComp [2] (iRange (eOp2 gSub (pV (eOp1 gLen (pV (eVar 0)))) (pV (eC (.int 1))))) (tName 2) bYes (eCall F_covered [none, none] (aCons (eVar 0) (aCons (eVar 2) aNil)))))
  (sSeq (sSet 5 (eComp [4] (iRange (eVar 1)) (tName 4) bYes (eC (.int 0))))
  (sSeq (sFor (iRange (eOp1 gLen (pV (eVar 3)))) (tName 6) (sSeq (sSet 7 (eDict1 (eVar 6) (eC (.int 1))))
  (sFor (iRange (eVar 1)) (tName 4) (sSeq (sSet 8 (eDict false))
  (sSeq (sLock 7 (sFor (iDict 7) (tName 2) (sFor (iSeq (eOp2 gItem (pV (eVar 3)) (pV (eVar 2)))) (tName 9) (sDPut' 8 (eVar 9) (eOp2 gAdd (pV (eGet2 8 (eVar 9) (eC (.int 0)))) (pV (eOp2 gDItem (pS 7) (pV (eVar 2)))))))))
  (sSeq (sMove 7 8)
  (sSub 5 (eVar 4) (eOp2 gAdd (pV (eOp2 gItem (pS 5) (pV (eVar 4)))) (pV (eGet2 7 (eVar 6) (eC (.int 0))))))))))))
  (sRetS 5))))
def F_closed_walks : Fn := runDef 10 2 (fun i => [true, true].getD i false) B_closed_walks

abbrev NL := List (Nat × Nat)
def fI (n : Nat) : D := .int (n : Int)
def dI (p : Nat × Nat) : D × D := (.int (p.1 : Int), .int (p.2 : Int))
def goalsD (G : List (List Nat)) : D := .list (G.map fun g => .list (g.map fI))
def nFind (m : NL) (k : Nat) : Option Nat := (m.find? fun p => Nat.beq p.1 k).map (·.2)
def nPut (m : NL) (k v : Nat) : NL := bif (m.any fun p => Nat.beq p.1 k) then m.map (fun p => bif Nat.beq p.1 k then (p.1, v) else p) else m ++ [(k, v)]
def putO (m : NL) (j w : Nat) : Option NL := if m.length < 1000000 then some (nPut m j ((nFind m j).getD 0 + w)) else none
def inO (w : Nat) : List Nat → NL → Option NL
  | [], m => some m
  | j :: js, m => (putO m j w).bind (inO w js)
def allO (G : List (List Nat)) (W : NL) : List Nat → NL → Option NL
  | [], m => some m
  | p :: ps, m => (G[p]?).bind fun g => (nFind W p).bind fun w => if g.length ≤ 1000000 then (inO w g m).bind (allO G W ps) else none
def turnO (G : List (List Nat)) (st : Nat) : List Nat → NL → List Nat → Option (NL × List Nat)
  | [], W, f => some (W, f)
  | t :: ts, W, f => (allO G W (W.map (·.1)) []).bind fun W' => (f[t]?).bind fun x => turnO G st ts W' (f.set t (x + (nFind W' st).getD 0))
def startO (G : List (List Nat)) (L : Nat) : List Nat → List Nat → Option (List Nat)
  | [], f => some f
  | st :: ss, f => (turnO G st (List.range L) [(st, 1)] f).bind fun r => startO G L ss r.2
theorem eqK_nat (a b : Nat) : eqK (.int (a : Int)) (.int (b : Int)) = Nat.beq a b := by
  unfold eqK
  have hb : Nat.beq a b = (a == b) := by
    by_cases h : a = b
    · subst h
      simp
    · have h1 : Nat.beq a b = false := Bool.eq_false_iff.mpr fun z => h (Nat.eq_of_beq_eq_true z)
      have h2 : (a == b) = false := by simpa using h
      rw [h1, h2]
  rw [hb]
  by_cases h : a = b
  · subst h; simp
  · have : ¬ (a : Int) = (b : Int) := by omega
    simp [h, this]
theorem find_dI (m : NL) (k : Nat) : dFind (m.map dI) (.int (k : Int)) = (nFind m k).map fI := by
  unfold dFind nFind
  induction m with
  | nil => rfl
  | cons p m ih =>
    rw [List.map_cons, List.find?_cons, List.find?_cons]
    show Option.map (fun q : D × D => q.2) (match eqK (.int (p.1 : Int)) (.int (k : Int)) with | true => _ | false => _) = _
    rw [eqK_nat]
    cases (Nat.beq p.1 k) with
    | true => rfl
    | false => exact ih
theorem put_dI (m : NL) (k v : Nat) : dPut (m.map dI) (.int (k : Int)) (.int (v : Int)) = (nPut m k v).map dI := by
  unfold dPut nPut
  have h1 : ((m.map dI).any fun p => eqK p.1 (.int (k : Int))) = m.any fun p => Nat.beq p.1 k := by
    rw [List.any_map]
    congr 1
    funext p
    exact eqK_nat p.1 k
  rw [h1]
  cases (m.any fun p => Nat.beq p.1 k) with
  | true =>
    simp only [if_true, cond_true]
    rw [List.map_map, List.map_map]
    apply List.map_congr_left
    intro p _
    show (if eqK (.int (p.1 : Int)) (.int (k : Int)) = true then _ else _) = dI (bif Nat.beq p.1 k then (p.1, v) else p)
    rw [eqK_nat]
    cases (Nat.beq p.1 k) <;> rfl
  | false =>
    simp only [Bool.false_eq_true, if_false, cond_false]
    rw [List.map_append]
    rfl
theorem eOp2_sv {g : O → O → Option O} {j : Nat} {b : Ex} {e e2 : Ev} {x x' y z : O} (h1 : slot e j = some x') (h2 : b e = some (y, e2)) (h4 : slot e2 j = some x) (h3 : g x y = some z) : eOp2 g (pS j) (pV b) e = some (z, e2) := by
  simp only [eOp2, pV, pS, h1, h2, Option.bind_some, res, h4, h3]
theorem gItem_o {xs : List D} {i : Int} {x : D} (h : L2.atI xs i = some x) : gItem (.l xs) (.d (.int i)) = some (.d x) := by
  simp only [gItem, oSeq, oInt, dItem, Option.bind_some, h]
theorem sSub_run {j : Nat} {i v : Ex} {e e1 e2 : Ev} {xs : List D} {y : D} {o o' : O} {k : Nat} (hv : v e = some (o, e1)) (h1 : slot e1 j = some o') (hi : i e1 = some (.d (.int (k : Int)), e2)) (h2 : slot e2 j = some (.l xs)) (hf : frz o = some y) (hk : k < xs.length) : sSub j i v e = some (.nx (e2.set j (some (.l (xs.set k y))))) := by
  unfold sSub
  rw [hv, Option.bind_some]
  show Option.bind (slot e1 j) _ = _
  rw [h1, Option.bind_some, hi, Option.bind_some]
  show Option.bind (slot e2 j) _ = _
  rw [h2, Option.bind_some]
  show Option.bind (some xs) _ = _
  rw [Option.bind_some, hf, Option.bind_some]
  show Option.bind (some (k : Int)) _ = _
  rw [Option.bind_some, ix_nat hk]
  rfl
def body1 : Sx := (sDPut' 8 (eVar 9) (eOp2 gAdd (pV (eGet2 8 (eVar 9) (eC (.int 0)))) (pV (eOp2 gDItem (pS 7) (pV (eVar 2))))))
def body2W : Sx := (sFor (iSeq (eOp2 gItem (pV (eVar 3)) (pV (eVar 2)))) (tName 9) body1)
def Plain (x : Option O) : Prop := x = none ∨ ∃ d, x = some (.d d)
theorem getD_fI (o : Option Nat) : (o.map fI).getD (.int 0) = fI (o.getD 0) := by cases o <;> rfl
section
variable {P L : D} {G : List (List Nat)}
theorem body1_ok {W M M' : NL} {p j w : Nat} {x4 x5 x6 : Option O} (hw : nFind W p = some w) (hm : putO M j w = some M') :
    body1 [some (.d P), some (.d L), some (.d (.int (p : Int))), some (.d (goalsD G)), x4, x5, x6, some (.k false (W.map dI)), some (.m false (M.map dI)), some (.d (.int (j : Int)))] = some (.nx [some (.d P), some (.d L), some (.d (.int (p : Int))), some (.d (goalsD G)), x4, x5, x6, some (.k false (W.map dI)), some (.m false (M'.map dI)), some (.d (.int (j : Int)))]) := by
  unfold putO at hm
  split at hm
  case isFalse => cases hm
  rename_i hl
  cases hm
  have g1 : eGet2 8 (eVar 9) (eC (.int 0)) [some (.d P), some (.d L), some (.d (.int (p : Int))), some (.d (goalsD G)), x4, x5, x6, some (.k false (W.map dI)), some (.m false (M.map dI)), some (.d (.int (j : Int)))] = some (.d (fI ((nFind M j).getD 0)), [some (.d P), some (.d L), some (.d (.int (p : Int))), some (.d (goalsD G)), x4, x5, x6, some (.k false (W.map dI)), some (.m false (M.map dI)), some (.d (.int (j : Int)))]) := by
    show (if keyOk false (.int (j : Int)) = true then some (O.d ((dFind (M.map dI) (.int (j : Int))).getD (.int 0)), _) else none) = _
    rw [find_dI, getD_fI]
    rfl
  have g2 : eOp2 gDItem (pS 7) (pV (eVar 2)) [some (.d P), some (.d L), some (.d (.int (p : Int))), some (.d (goalsD G)), x4, x5, x6, some (.k false (W.map dI)), some (.m false (M.map dI)), some (.d (.int (j : Int)))] = some (.d (fI w), [some (.d P), some (.d L), some (.d (.int (p : Int))), some (.d (goalsD G)), x4, x5, x6, some (.k false (W.map dI)), some (.m false (M.map dI)), some (.d (.int (j : Int)))]) := by
    show Option.bind (if keyOk false (.int (p : Int)) = true then (dFind (W.map dI) (.int (p : Int))).bind fun v => some (O.d v) else none) _ = _
    rw [find_dI, hw]
    rfl
  have g3 := eOp2_v (g := gAdd) g1 g2 (z := .d (fI ((nFind M j).getD 0 + w))) (by
    unfold fI
    simp only [gAdd]
    rw [Int.natCast_add])
  unfold body1 sDPut'
  rw [g3, Option.bind_some]
  show (if keyOk false (.int (j : Int)) = true ∧ (M.map dI).length < 1000000 then some (Out.nx (_ : Ev)) else none) = _
  rw [if_pos ⟨rfl, by rw [List.length_map]; exact hl⟩]
  unfold fI
  rw [put_dI]
  rfl
theorem loop1_cw {W : NL} {p w : Nat} {x4 x5 x6 : Option O} (hw : nFind W p = some w) : ∀ (js : List Nat) (M M' : NL) (x9 : Option O), inO w js M = some M' → Plain x9 →
    ∃ y9, forLoop (tName 9) body1 (js.map fI) [some (.d P), some (.d L), some (.d (.int (p : Int))), some (.d (goalsD G)), x4, x5, x6, some (.k false (W.map dI)), some (.m false (M.map dI)), x9] = some (.nx [some (.d P), some (.d L), some (.d (.int (p : Int))), some (.d (goalsD G)), x4, x5, x6, some (.k false (W.map dI)), some (.m false (M'.map dI)), y9]) ∧ Plain y9
  | [], M, M', x9, h, p9 => by
    cases h
    exact ⟨x9, rfl, p9⟩
  | j :: js, M, M', x9, h, p9 => by
    unfold inO at h
    obtain ⟨M1, e1, h⟩ := Option.bind_eq_some_iff.mp h
    obtain ⟨y9, e, q9⟩ := loop1_cw hw js M1 M' (some (.d (.int (j : Int)))) h (.inr ⟨_, rfl⟩)
    refine ⟨y9, ?_, q9⟩
    rw [List.map_cons, forLoop_cons (e1 := [some (.d P), some (.d L), some (.d (.int (p : Int))), some (.d (goalsD G)), x4, x5, x6, some (.k false (W.map dI)), some (.m false (M.map dI)), some (.d (.int (j : Int)))]) rfl (body1_ok hw e1)]
    exact e
theorem loop2_cw {W : NL} {x4 x5 x6 : Option O} : ∀ (ps : List Nat) (M M' : NL) (x2 x9 : Option O), allO G W ps M = some M' → Plain x2 → Plain x9 →
    ∃ y2 y9, forLoop (tName 2) body2W (ps.map fI) [some (.d P), some (.d L), x2, some (.d (goalsD G)), x4, x5, x6, some (.k false (W.map dI)), some (.m false (M.map dI)), x9] = some (.nx [some (.d P), some (.d L), y2, some (.d (goalsD G)), x4, x5, x6, some (.k false (W.map dI)), some (.m false (M'.map dI)), y9]) ∧ Plain y2 ∧ Plain y9
  | [], M, M', x2, x9, h, p2, p9 => by
    cases h
    exact ⟨x2, x9, rfl, p2, p9⟩
  | p :: ps, M, M', x2, x9, h, p2, p9 => by
    unfold allO at h
    obtain ⟨g, e1, h⟩ := Option.bind_eq_some_iff.mp h
    obtain ⟨w, e2, h⟩ := Option.bind_eq_some_iff.mp h
    split at h
    case isFalse => cases h
    rename_i hgl
    obtain ⟨M1, e3, h⟩ := Option.bind_eq_some_iff.mp h
    obtain ⟨z9, l1, q9⟩ := loop1_cw (P := P) (L := L) (G := G) (x4 := x4) (x5 := x5) (x6 := x6) e2 g M M1 x9 e3 p9
    obtain ⟨y2, y9, e, r2, r9⟩ := loop2_cw ps M1 M' (some (.d (.int (p : Int)))) z9 h (.inr ⟨_, rfl⟩) q9
    refine ⟨y2, y9, ?_, r2, r9⟩
    have hi : L2.atI (G.map fun g => PyData.list (g.map fI)) (p : Int) = some (.list (g.map fI)) := at_nat' (by rw [List.getElem?_map, e1]; rfl)
    have i1 : iSeq (eOp2 gItem (pV (eVar 3)) (pV (eVar 2))) [some (.d P), some (.d L), some (.d (.int (p : Int))), some (.d (goalsD G)), x4, x5, x6, some (.k false (W.map dI)), some (.m false (M.map dI)), x9] = some (g.map fI, [some (.d P), some (.d L), some (.d (.int (p : Int))), some (.d (goalsD G)), x4, x5, x6, some (.k false (W.map dI)), some (.m false (M.map dI)), x9]) := by
      unfold iSeq
      rw [eOp2_v (z := .d (.list (g.map fI))) rfl rfl (gItem_l hi)]
      rfl
    have b : body2W [some (.d P), some (.d L), some (.d (.int (p : Int))), some (.d (goalsD G)), x4, x5, x6, some (.k false (W.map dI)), some (.m false (M.map dI)), x9] = some (.nx [some (.d P), some (.d L), some (.d (.int (p : Int))), some (.d (goalsD G)), x4, x5, x6, some (.k false (W.map dI)), some (.m false (M1.map dI)), z9]) := sFor_run i1 l1
    rw [List.map_cons, forLoop_cons (e1 := [some (.d P), some (.d L), some (.d (.int (p : Int))), some (.d (goalsD G)), x4, x5, x6, some (.k false (W.map dI)), some (.m false (M.map dI)), x9]) rfl b]
    exact e
def bodyT : Sx := (sSeq (sSet 8 (eDict false))
  (sSeq (sLock 7 (sFor (iDict 7) (tName 2) body2W))
  (sSeq (sMove 7 8)
  (sSub 5 (eVar 4) (eOp2 gAdd (pV (eOp2 gItem (pS 5) (pV (eVar 4)))) (pV (eGet2 7 (eVar 6) (eC (.int 0)))))))))
theorem bodyT_ok {W W' : NL} {f : List Nat} {t st x : Nat} {x2 x8 x9 : Option O} (h : allO G W (W.map (·.1)) [] = some W') (hf : f[t]? = some x) (p2 : Plain x2) (p9 : Plain x9) :
    ∃ y2 y9, bodyT [some (.d P), some (.d L), x2, some (.d (goalsD G)), some (.d (.int (t : Int))), some (.l (f.map fI)), some (.d (.int (st : Int))), some (.m false (W.map dI)), x8, x9] = some (.nx [some (.d P), some (.d L), y2, some (.d (goalsD G)), some (.d (.int (t : Int))), some (.l ((f.set t (x + (nFind W' st).getD 0)).map fI)), some (.d (.int (st : Int))), some (.m false (W'.map dI)), none, y9]) ∧ Plain y2 ∧ Plain y9 := by
  obtain ⟨y2, y9, e, q2, q9⟩ := loop2_cw (P := P) (L := L) (x4 := some (.d (.int (t : Int)))) (x5 := some (.l (f.map fI))) (x6 := some (.d (.int (st : Int)))) (W.map (·.1)) [] W' x2 x9 h p2 p9
  refine ⟨y2, y9, ?_, q2, q9⟩
  have b1 : sSet 8 (eDict false) [some (.d P), some (.d L), x2, some (.d (goalsD G)), some (.d (.int (t : Int))), some (.l (f.map fI)), some (.d (.int (st : Int))), some (.m false (W.map dI)), x8, x9] = some (.nx [some (.d P), some (.d L), x2, some (.d (goalsD G)), some (.d (.int (t : Int))), some (.l (f.map fI)), some (.d (.int (st : Int))), some (.m false (W.map dI)), some (.m false []), x9]) := rfl
  have nk : noK [some (.d P), some (.d L), y2, some (.d (goalsD G)), some (.d (.int (t : Int))), some (.l (f.map fI)), some (.d (.int (st : Int))), none, some (.m false (W'.map dI)), y9] = true := by
    rcases q2 with rfl | ⟨d2, rfl⟩ <;> rcases q9 with rfl | ⟨d9, rfl⟩ <;> rfl
  have hk : (W.map dI).map (·.1) = (W.map (·.1)).map fI := by
    rw [List.map_map, List.map_map]
    rfl
  have l1 : sFor (iDict 7) (tName 2) body2W [some (.d P), some (.d L), x2, some (.d (goalsD G)), some (.d (.int (t : Int))), some (.l (f.map fI)), some (.d (.int (st : Int))), some (.k false (W.map dI)), some (.m false []), x9] = some (.nx [some (.d P), some (.d L), y2, some (.d (goalsD G)), some (.d (.int (t : Int))), some (.l (f.map fI)), some (.d (.int (st : Int))), some (.k false (W.map dI)), some (.m false (W'.map dI)), y9]) := by
    refine sFor_run (ds := (W.map (·.1)).map fI) (e1 := [some (.d P), some (.d L), x2, some (.d (goalsD G)), some (.d (.int (t : Int))), some (.l (f.map fI)), some (.d (.int (st : Int))), some (.k false (W.map dI)), some (.m false []), x9]) ?_ e
    rw [← hk]
    rfl
  have b2 : sLock 7 (sFor (iDict 7) (tName 2) body2W) [some (.d P), some (.d L), x2, some (.d (goalsD G)), some (.d (.int (t : Int))), some (.l (f.map fI)), some (.d (.int (st : Int))), some (.m false (W.map dI)), some (.m false []), x9] = some (.nx [some (.d P), some (.d L), y2, some (.d (goalsD G)), some (.d (.int (t : Int))), some (.l (f.map fI)), some (.d (.int (st : Int))), none, some (.m false (W'.map dI)), y9]) := by
    unfold sLock
    show Option.bind (sFor (iDict 7) (tName 2) body2W [some (.d P), some (.d L), x2, some (.d (goalsD G)), some (.d (.int (t : Int))), some (.l (f.map fI)), some (.d (.int (st : Int))), some (.k false (W.map dI)), some (.m false []), x9]) _ = _
    rw [l1, Option.bind_some]
    show (if noK [some (.d P), some (.d L), y2, some (.d (goalsD G)), some (.d (.int (t : Int))), some (.l (f.map fI)), some (.d (.int (st : Int))), none, some (.m false (W'.map dI)), y9] = true then some (Out.nx _) else none) = _
    rw [if_pos nk]
    rfl
  have b3 : sMove 7 8 [some (.d P), some (.d L), y2, some (.d (goalsD G)), some (.d (.int (t : Int))), some (.l (f.map fI)), some (.d (.int (st : Int))), none, some (.m false (W'.map dI)), y9] = some (.nx [some (.d P), some (.d L), y2, some (.d (goalsD G)), some (.d (.int (t : Int))), some (.l (f.map fI)), some (.d (.int (st : Int))), some (.m false (W'.map dI)), none, y9]) := rfl
  have hx : (f.map fI)[t]? = some (fI x) := by rw [List.getElem?_map, hf]; rfl
  have ha := at_nat' hx
  have g1 : eOp2 gItem (pS 5) (pV (eVar 4)) [some (.d P), some (.d L), y2, some (.d (goalsD G)), some (.d (.int (t : Int))), some (.l (f.map fI)), some (.d (.int (st : Int))), some (.m false (W'.map dI)), none, y9] = some (.d (fI x), [some (.d P), some (.d L), y2, some (.d (goalsD G)), some (.d (.int (t : Int))), some (.l (f.map fI)), some (.d (.int (st : Int))), some (.m false (W'.map dI)), none, y9]) := by
    exact eOp2_sv rfl rfl rfl (gItem_o ha)
  have g2 : eGet2 7 (eVar 6) (eC (.int 0)) [some (.d P), some (.d L), y2, some (.d (goalsD G)), some (.d (.int (t : Int))), some (.l (f.map fI)), some (.d (.int (st : Int))), some (.m false (W'.map dI)), none, y9] = some (.d (fI ((nFind W' st).getD 0)), [some (.d P), some (.d L), y2, some (.d (goalsD G)), some (.d (.int (t : Int))), some (.l (f.map fI)), some (.d (.int (st : Int))), some (.m false (W'.map dI)), none, y9]) := by
    show (if keyOk false (.int (st : Int)) = true then some (O.d ((dFind (W'.map dI) (.int (st : Int))).getD (.int 0)), _) else none) = _
    rw [find_dI, getD_fI]
    rfl
  have g3 := eOp2_v (g := gAdd) g1 g2 (z := .d (fI (x + (nFind W' st).getD 0))) (by
    unfold fI
    simp only [gAdd]
    rw [Int.natCast_add])
  unfold bodyT
  rw [sSeq_run b1, sSeq_run b2, sSeq_run b3]
  have hlt : t < (f.map fI).length := (List.getElem?_eq_some_iff.mp hx).1
  rw [sSub_run (i := eVar 4) (k := t) g3 rfl rfl rfl rfl hlt, ← List.map_set]
  rfl
theorem loopT_ok {st : Nat} : ∀ (ts : List Nat) (W W' : NL) (f f' : List Nat) (x2 x4 x8 x9 : Option O), turnO G st ts W f = some (W', f') → Plain x2 → Plain x4 → Plain x8 → Plain x9 →
    ∃ y2 y4 y8 y9, forLoop (tName 4) bodyT (ts.map fI) [some (.d P), some (.d L), x2, some (.d (goalsD G)), x4, some (.l (f.map fI)), some (.d (.int (st : Int))), some (.m false (W.map dI)), x8, x9] = some (.nx [some (.d P), some (.d L), y2, some (.d (goalsD G)), y4, some (.l (f'.map fI)), some (.d (.int (st : Int))), some (.m false (W'.map dI)), y8, y9]) ∧ Plain y2 ∧ Plain y4 ∧ Plain y8 ∧ Plain y9
  | [], W, W', f, f', x2, x4, x8, x9, h, p2, p4, p8, p9 => by
    cases h
    exact ⟨x2, x4, x8, x9, rfl, p2, p4, p8, p9⟩
  | t :: ts, W, W', f, f', x2, x4, x8, x9, h, p2, p4, p8, p9 => by
    unfold turnO at h
    obtain ⟨W1, e1, h⟩ := Option.bind_eq_some_iff.mp h
    obtain ⟨x, e2, h⟩ := Option.bind_eq_some_iff.mp h
    obtain ⟨y2, y9, b, q2, q9⟩ := bodyT_ok (P := P) (L := L) (st := st) (x8 := x8) e1 e2 p2 p9
    obtain ⟨z2, z4, z8, z9, e, r2, r4, r8, r9⟩ := loopT_ok ts W1 W' _ f' y2 (some (.d (.int (t : Int)))) none y9 h q2 (.inr ⟨_, rfl⟩) (.inl rfl) q9
    refine ⟨z2, z4, z8, z9, ?_, r2, r4, r8, r9⟩
    rw [List.map_cons, forLoop_cons (e1 := [some (.d P), some (.d L), x2, some (.d (goalsD G)), some (.d (.int (t : Int))), some (.l (f.map fI)), some (.d (.int (st : Int))), some (.m false (W.map dI)), x8, x9]) rfl b]
    exact e
def bodyS : Sx := (sSeq (sSet 7 (eDict1 (eVar 6) (eC (.int 1))))
  (sFor (iRange (eVar 1)) (tName 4) bodyT))
theorem loopS_ok {Ln : Nat} (hL : Ln ≤ 1000) : ∀ (ss : List Nat) (f f' : List Nat) (x2 x4 x6 x7 x8 x9 : Option O), startO G Ln ss f = some f' → Plain x2 → Plain x4 → Plain x8 → Plain x9 →
    ∃ y2 y4 y6 y7 y8 y9, forLoop (tName 6) bodyS (ss.map fI) [some (.d P), some (.d (.int (Ln : Int))), x2, some (.d (goalsD G)), x4, some (.l (f.map fI)), x6, x7, x8, x9] = some (.nx [some (.d P), some (.d (.int (Ln : Int))), y2, some (.d (goalsD G)), y4, some (.l (f'.map fI)), y6, y7, y8, y9])
  | [], f, f', x2, x4, x6, x7, x8, x9, h, p2, p4, p8, p9 => by
    cases h
    exact ⟨x2, x4, x6, x7, x8, x9, rfl⟩
  | st :: ss, f, f', x2, x4, x6, x7, x8, x9, h, p2, p4, p8, p9 => by
    unfold startO at h
    obtain ⟨⟨W1, f1⟩, e1, h⟩ := Option.bind_eq_some_iff.mp h
    obtain ⟨y2, y4, y8, y9, e, q2, q4, q8, q9⟩ := loopT_ok (P := P) (L := .int (Ln : Int)) (List.range Ln) [(st, 1)] W1 f f1 x2 x4 x8 x9 e1 p2 p4 p8 p9
    obtain ⟨z2, z4, z6, z7, z8, z9, e2⟩ := loopS_ok hL ss f1 f' y2 y4 (some (.d (.int (st : Int)))) (some (.m false (W1.map dI))) y8 y9 h q2 q4 q8 q9
    refine ⟨z2, z4, z6, z7, z8, z9, ?_⟩
    have b : bodyS [some (.d P), some (.d (.int (Ln : Int))), x2, some (.d (goalsD G)), x4, some (.l (f.map fI)), some (.d (.int (st : Int))), x7, x8, x9] = some (.nx [some (.d P), some (.d (.int (Ln : Int))), y2, some (.d (goalsD G)), y4, some (.l (f1.map fI)), some (.d (.int (st : Int))), some (.m false (W1.map dI)), y8, y9]) := by
      unfold bodyS
      have b1 : sSet 7 (eDict1 (eVar 6) (eC (.int 1))) [some (.d P), some (.d (.int (Ln : Int))), x2, some (.d (goalsD G)), x4, some (.l (f.map fI)), some (.d (.int (st : Int))), x7, x8, x9] = some (.nx [some (.d P), some (.d (.int (Ln : Int))), x2, some (.d (goalsD G)), x4, some (.l (f.map fI)), some (.d (.int (st : Int))), some (.m false ([(st, 1)].map dI)), x8, x9]) := rfl
      rw [sSeq_run b1]
      exact sFor_run (iRange_run rfl (by omega)) e
    rw [List.map_cons, forLoop_cons (e1 := [some (.d P), some (.d (.int (Ln : Int))), x2, some (.d (goalsD G)), x4, some (.l (f.map fI)), some (.d (.int (st : Int))), x7, x8, x9]) rfl b]
    exact e2
end
def natsOf : List D → Option (List Nat)
  | [] => some []
  | .int i :: r => if 0 ≤ i then (natsOf r).bind fun ns => some (i.toNat :: ns) else none
  | _ => none
theorem natsOf_eq : ∀ {g : List D} {ns : List Nat}, natsOf g = some ns → g = ns.map fI
  | [], ns, h => by cases h; rfl
  | .int i :: r, ns, h => by
    unfold natsOf at h
    split at h
    case isFalse => cases h
    rename_i hi
    obtain ⟨ms, e, h⟩ := Option.bind_eq_some_iff.mp h
    cases h
    rw [List.map_cons, ← natsOf_eq e]
    unfold fI
    rw [Int.toNat_of_nonneg hi]
  | .none :: r, ns, h => by simp [natsOf] at h
  | .bool _ :: r, ns, h => by simp [natsOf] at h
  | .str _ :: r, ns, h => by simp [natsOf] at h
  | .list _ :: r, ns, h => by simp [natsOf] at h
  | .tuple _ :: r, ns, h => by simp [natsOf] at h
  | .dict _ :: r, ns, h => by simp [natsOf] at h
def goalsO (C : Fn) (P : D) : List Nat → Option (List (List Nat))
  | [] => some []
  | k :: ks => match C [.d P, .d (.int (k : Int))] with
    | some (.l g, _) => (natsOf g).bind fun g' => (goalsO C P ks).bind fun r => some (g' :: r)
    | _ => none
theorem goalsO_get {C : Fn} {P : D} : ∀ {ks : List Nat} {G : List (List Nat)}, goalsO C P ks = some G → G.length = ks.length ∧ ∀ (i k : Nat), ks[i]? = some k → ∃ fs, C [.d P, .d (.int (k : Int))] = some (.l ((G.getD i []).map fI), fs)
  | [], G, h => by
    cases h
    exact ⟨rfl, fun i k e => by simp at e⟩
  | k :: ks, G, h => by
    unfold goalsO at h
    split at h
    case h_2 => cases h
    rename_i g fs hc
    obtain ⟨g', e1, h⟩ := Option.bind_eq_some_iff.mp h
    obtain ⟨r, e2, h⟩ := Option.bind_eq_some_iff.mp h
    cases h
    obtain ⟨h1, h2⟩ := goalsO_get e2
    refine ⟨by rw [List.length_cons, List.length_cons, h1], fun i k' e => ?_⟩
    cases i with
    | zero =>
      have : k = k' := by simpa using e
      subst this
      exact ⟨fs, by rw [hc, natsOf_eq e1]; rfl⟩
    | succ i => exact h2 i k' (by simpa using e)
def goalF (G : List (List Nat)) : D → D
  | .int k => .list ((G.getD k.toNat []).map fI)
  | d => d
def zeroF : D → D := fun _ => .int 0
def cwQ (C : Fn) (xs : List D) (Ln : Nat) : Option (List Nat) := if 1 ≤ xs.length ∧ xs.length ≤ 1000 ∧ Ln ≤ 1000 then (goalsO C (.tuple xs) (List.range (xs.length - 1))).bind fun G => startO G Ln (List.range G.length) (List.replicate Ln 0) else none
theorem putBack_nn (os : List (Option O)) (e : Ev) : putBack [none, none] os e = e := by
  cases os with
  | nil => rfl
  | cons a os => cases os <;> rfl
theorem closed_walks_ok {xs : List D} {Ln : Nat} {f : List Nat} (h : cwQ F_covered xs Ln = some f) : F_closed_walks [.d (.tuple xs), .d (.int (Ln : Int))] = some (.l (f.map fI), [some (.d (.tuple xs)), some (.d (.int (Ln : Int)))]) := by
  unfold cwQ at h
  split at h
  case isFalse => cases h
  rename_i hc
  obtain ⟨h1, h2, h3⟩ := hc
  obtain ⟨G, hG, hs⟩ := Option.bind_eq_some_iff.mp h
  obtain ⟨gl, gg⟩ := goalsO_get hG
  rw [List.length_range] at gl
  have hlen : ((xs.length : Int) - 1) = ((xs.length - 1 : Nat) : Int) := by omega
  have c := compLoop_all (own := [2]) (tg := tName 2) (elt := eCall F_covered [none, none] (aCons (eVar 0) (aCons (eVar 2) aNil))) (e := [some (.d (.tuple xs)), some (.d (.int (Ln : Int))), none, none, none, none, none, none, none, none]) (goalF G) ((List.range (xs.length - 1)).map fun k : Nat => PyData.int (k : Int)) fun x hx => by
    obtain ⟨k, hk, rfl⟩ := List.mem_map.mp hx
    have hk := List.mem_range.mp hk
    obtain ⟨fs, e⟩ := gg k k (by simp [hk])
    refine ⟨[some (.d (.tuple xs)), some (.d (.int (Ln : Int))), some (.d (.int (k : Int))), none, none, none, none, none, none, none], .l ((G.getD k []).map fI), [some (.d (.tuple xs)), some (.d (.int (Ln : Int))), some (.d (.int (k : Int))), none, none, none, none, none, none, none], rfl, ?_, rfl, rfl⟩
    unfold eCall
    show Option.bind (F_covered [.d (.tuple xs), .d (.int (k : Int))]) _ = _
    rw [e, Option.bind_some, putBack_nn]
    rfl
  have hm : (((List.range (xs.length - 1)).map fun k : Nat => PyData.int (k : Int)).map (goalF G)) = G.map fun g => .list (g.map fI) := by
    rw [List.map_map]
    apply List.ext_getElem?
    intro i
    by_cases hi : i < xs.length - 1
    · have hi2 : i < G.length := by omega
      simp [hi, hi2, goalF]
    · have hi2 : ¬ i < G.length := by omega
      simp [hi, hi2, goalF]
  rw [hm] at c
  have i1 : iRange (eOp2 gSub (pV (eOp1 gLen (pV (eVar 0)))) (pV (eC (.int 1)))) [some (.d (.tuple xs)), some (.d (.int (Ln : Int))), none, none, none, none, none, none, none, none] = some ((List.range (xs.length - 1)).map fun k : Nat => PyData.int (k : Int), [some (.d (.tuple xs)), some (.d (.int (Ln : Int))), none, none, none, none, none, none, none, none]) :=
    iRange_run (eOp2_v (x := .d (.int (xs.length : Int))) (eOp1_v rfl rfl) rfl (by simp only [gSub]; rw [hlen])) (by omega)
  have x1 := eComp_run i1 (by simp; omega) rfl c
  have b1 : sSetF 3 (eComp [2] (iRange (eOp2 gSub (pV (eOp1 gLen (pV (eVar 0)))) (pV (eC (.int 1))))) (tName 2) bYes (eCall F_covered [none, none] (aCons (eVar 0) (aCons (eVar 2) aNil)))) [some (.d (.tuple xs)), some (.d (.int (Ln : Int))), none, none, none, none, none, none, none, none] = some (.nx [some (.d (.tuple xs)), some (.d (.int (Ln : Int))), none, some (.d (goalsD G)), none, none, none, none, none, none]) := by
    unfold sSetF
    rw [x1]
    rfl
  have c2 := compLoop_all (own := [4]) (tg := tName 4) (elt := eC (.int 0)) (e := [some (.d (.tuple xs)), some (.d (.int (Ln : Int))), none, some (.d (goalsD G)), none, none, none, none, none, none]) zeroF ((List.range Ln).map fun k : Nat => PyData.int (k : Int)) fun x hx => by
    exact ⟨[some (.d (.tuple xs)), some (.d (.int (Ln : Int))), none, some (.d (goalsD G)), some (.d x), none, none, none, none, none], .d (.int 0), [some (.d (.tuple xs)), some (.d (.int (Ln : Int))), none, some (.d (goalsD G)), some (.d x), none, none, none, none, none], rfl, rfl, rfl, rfl⟩
  have hm2 : (((List.range Ln).map fun k : Nat => PyData.int (k : Int)).map zeroF) = (List.replicate Ln 0).map fI := by
    rw [List.map_map, List.map_replicate]
    apply List.ext_getElem?
    intro i
    by_cases hi : i < Ln
    · simp [hi, fI, zeroF]
    · simp [hi, fI, zeroF]
  rw [hm2] at c2
  have i2 : iRange (eVar 1) [some (.d (.tuple xs)), some (.d (.int (Ln : Int))), none, some (.d (goalsD G)), none, none, none, none, none, none] = some ((List.range Ln).map fun k : Nat => PyData.int (k : Int), [some (.d (.tuple xs)), some (.d (.int (Ln : Int))), none, some (.d (goalsD G)), none, none, none, none, none, none]) := iRange_run rfl (by omega)
  have x2 := eComp_run i2 (by simp; omega) rfl c2
  have b2 : sSet 5 (eComp [4] (iRange (eVar 1)) (tName 4) bYes (eC (.int 0))) [some (.d (.tuple xs)), some (.d (.int (Ln : Int))), none, some (.d (goalsD G)), none, none, none, none, none, none] = some (.nx [some (.d (.tuple xs)), some (.d (.int (Ln : Int))), none, some (.d (goalsD G)), none, some (.l ((List.replicate Ln 0).map fI)), none, none, none, none]) := by
    unfold sSet
    rw [x2]
    rfl
  obtain ⟨y2, y4, y6, y7, y8, y9, e3⟩ := loopS_ok (P := .tuple xs) (G := G) h3 (List.range G.length) (List.replicate Ln 0) f none none none none none none hs (.inl rfl) (.inl rfl) (.inl rfl) (.inl rfl)
  have i3 : iRange (eOp1 gLen (pV (eVar 3))) [some (.d (.tuple xs)), some (.d (.int (Ln : Int))), none, some (.d (goalsD G)), none, some (.l ((List.replicate Ln 0).map fI)), none, none, none, none] = some ((List.range G.length).map fun k : Nat => PyData.int (k : Int), [some (.d (.tuple xs)), some (.d (.int (Ln : Int))), none, some (.d (goalsD G)), none, some (.l ((List.replicate Ln 0).map fI)), none, none, none, none]) :=
    iRange_run (eOp1_v (x := .d (goalsD G)) rfl (by simp [goalsD])) (by omega)
  have b3 : sFor (iRange (eOp1 gLen (pV (eVar 3)))) (tName 6) bodyS [some (.d (.tuple xs)), some (.d (.int (Ln : Int))), none, some (.d (goalsD G)), none, some (.l ((List.replicate Ln 0).map fI)), none, none, none, none] = some (.nx [some (.d (.tuple xs)), some (.d (.int (Ln : Int))), y2, some (.d (goalsD G)), y4, some (.l (f.map fI)), y6, y7, y8, y9]) := sFor_run i3 e3
  refine runDef_rt (e := [some (.d (.tuple xs)), some (.d (.int (Ln : Int))), y2, some (.d (goalsD G)), y4, none, y6, y7, y8, y9]) rfl ?_
  show B_closed_walks [some (.d (.tuple xs)), some (.d (.int (Ln : Int))), none, none, none, none, none, none, none, none] = _
  unfold B_closed_walks
  rw [sSeq_run b1, sSeq_run b2]
  refine (sSeq_run (a := sFor (iRange (eOp1 gLen (pV (eVar 3)))) (tName 6) bodyS) b3).trans ?_
  rfl
def F_cwQ (C : Fn) : Fn := fun os => match os with
  | [.d (.tuple xs), .d (.int (.ofNat n))] => (match cwQ C xs n with
    | some f => some (.l (f.map fI), [some (.d (.tuple xs)), some (.d (.int (.ofNat n)))])
    | none => F_closed_walks os)
  | _ => F_closed_walks os
theorem F_cwQ_eq : F_cwQ F_covered = F_closed_walks := by
  funext os
  unfold F_cwQ
  split
  · split
    · rename_i xs n f h
      exact (closed_walks_ok h).symm
    · rfl
  · rfl
end Sh

/-! beside_walks: a quick way to the same number. -/
namespace Sh
open PySem
def B_repeats : Sx :=
  (sRet (eGenB [1] (iRange2 (eC (.int 1)) (eOp1 gLen (pV (eVar 0)))) (tName 1) bYes (eAnd (eOp2 (gB gEq) (pV (eOp2 gMod (pV (eOp1 gLen (pV (eVar 0)))) (pV (eVar 1)))) (pV (eC (.int 0)))) (eOp2 (gB gEq) (pV (eOp2 gRep (pV (eCut (pV (eVar 0)) hNo (hAt (eVar 1)))) (pV (eOp2 gDiv (pV (eOp1 gLen (pV (eVar 0)))) (pV (eVar 1)))))) (pV (eVar 0)))) true))
def F_repeats : Fn := runDef 2 1 (fun i => [true].getD i false) B_repeats
def B_piece_beside : Sx :=
  (sRet (eIf (bOp2 gEq (pV (eOp2 gItem (pV (eVar 0)) (pV (eC (.int 1))))) (pV (eC (.int 1)))) (eOp2 gItem (pV (eVar 0)) (pV (eC (.int 0)))) (eOp2 gSub (pV (eOp2 gItem (pV (eVar 0)) (pV (eC (.int 0))))) (pV (eC (.int 1))))))
def F_piece_beside : Fn := runDef 1 1 (fun i => [true].getD i false) B_piece_beside
def B_step_beside : Sx :=
  (sSeq (sTg (tTupl [(tName 2), (tName 3)]) (eVar 1))
  (sSeq (sSetF 4 (eIf (bOp2 gGt (pV (eOp2 gItem (pV (eVar 0)) (pV (eOp2 gAdd (pV (eVar 2)) (pV (eVar 3)))))) (pV (eOp2 gItem (pV (eVar 0)) (pV (eVar 2))))) (eC (.int 1)) (eOp1 gNeg (pV (eC (.int 1))))))
  (sRet (eTup (aCons (eOp2 gItem (pV (eVar 0)) (pV (eVar 2))) (aCons (eVar 4) aNil))))))
def F_step_beside : Fn := runDef 5 2 (fun i => [true, true].getD i false) B_step_beside
def B_walk_beside : Sx :=
  (sSeq (sPar2 2 3 (eVar 1) (eLst aNil))
  (sSeq (sWhile FU (bOp2 gLe (pV (eOp1 gLen (pS 3))) (pV (eOp2 gMul (pV (eC (.int 2))) (pV (eOp1 gLen (pV (eVar 0))))))) (sSeq (sApp 3 (eCall F_piece_beside [none] (aCons (eVar 2) aNil)))
  (sSeq (sSetF 2 (eCall F_step_beside [none, none] (aCons (eVar 0) (aCons (eVar 2) aNil))))
  (sIf (bOp2 gEq (pV (eVar 2)) (pV (eVar 1))) (sRetS 3) sNil))))
  (sRet (eC .none))))
def F_walk_beside : Fn := runDef 4 2 (fun i => [true, true].getD i false) B_walk_beside
def B_beside_walks : Sx :=
  (sSeq (sSetF 2 (eOp2 gAdd (pV (eComp [5] (iRange (eOp2 gSub (pV (eOp1 gLen (pV (eVar 0)))) (pV (eC (.int 1))))) (tName 5) bYes (eTup (aCons (eVar 5) (aCons (eC (.int 1)) aNil))))) (pV (eComp [5] (iRange2 (eC (.int 1)) (eOp1 gLen (pV (eVar 0)))) (tName 5) bYes (eTup (aCons (eVar 5) (aCons (eOp1 gNeg (pV (eC (.int 1)))) aNil)))))))
  (sSeq (sSetF 3 (eComp [4] (iSeq (eVar 2)) (tName 4) bYes (eCall F_walk_beside [none, none] (aCons (eVar 0) (aCons (eVar 4) aNil)))))
  (sRet (eOp1 gLen (pV (eComp [6] (iSeq (eVar 3)) (tName 6) (bAnd (bOp2 gIsNot (pV (eVar 6)) (pV (eC .none))) (bAnd (bOp2 gEq (pV (eOp1 gLen (pV (eVar 6)))) (pV (eVar 1))) (bNot (bTru (pV (eCall F_repeats [none] (aCons (eVar 6) aNil))))))) (eVar 6)))))))
def F_beside_walks : Fn := runDef 7 2 (fun i => [true, true].getD i false) B_beside_walks

theorem bOp2_v {g : O → O → Option Bool} {a b : Ex} {e e1 e2 : Ev} {x y : O} {z : Bool} (h1 : a e = some (x, e1)) (h2 : b e1 = some (y, e2)) (h3 : g x y = some z) : bOp2 g (pV a) (pV b) e = some (z, e2) := by
  simp only [bOp2, pV, h1, h2, Option.bind_some, res, h3]
abbrev Bs := Nat × Bool
def sg (b : Bool) : Int := bif b then 1 else -1
def bsD (h : Bs) : D := .tuple (zs [(h.1 : Int), sg h.2])
def pcI (h : Bs) : Int := bif h.2 then (h.1 : Int) else (h.1 : Int) - 1
theorem gEq_zs (xs ys : List Int) : gEq (.d (.tuple (zs xs))) (.d (.tuple (zs ys))) = some (decide (xs = ys)) := by
  simp only [gEq, oDat, Option.bind_some]
  rw [if_pos ⟨shaped_zs xs, shaped_zs ys⟩, eqv_row]
theorem piece_ok (h : Bs) : F_piece_beside [.d (bsD h)] = some (.d (.int (pcI h)), [some (.d (bsD h))]) := by
  obtain ⟨n, b⟩ := h
  cases b
  · refine runDef_rt (e := [some (.d (bsD (n, false)))]) rfl ?_
    show B_piece_beside [some (.d (bsD (n, false)))] = _
    unfold B_piece_beside
    simp [bsD, zs, sg, pcI, L2.atI, L2.ixN, shaped_int, eqv_int]
  · refine runDef_rt (e := [some (.d (bsD (n, true)))]) rfl ?_
    show B_piece_beside [some (.d (bsD (n, true)))] = _
    unfold B_piece_beside
    simp [bsD, zs, sg, pcI, L2.atI, L2.ixN, shaped_int, eqv_int]
def nbO (h : Bs) : Option Nat := bif h.2 then some (h.1 + 1) else match h.1 with
  | 0 => none
  | k + 1 => some k
def stepO (p : List Nat) (h : Bs) : Option Bs := (nbO h).bind fun nb => (p[h.1]?).bind fun a => (p[nb]?).bind fun b => some (a, decide (a < b))
theorem nb_int {h : Bs} {nb : Nat} (e : nbO h = some nb) : (h.1 : Int) + sg h.2 = (nb : Int) := by
  obtain ⟨n, b⟩ := h
  unfold nbO at e
  cases b with
  | true =>
    have : n + 1 = nb := by simpa using e
    subst this
    simp [sg]
  | false =>
    cases n with
    | zero => simp at e
    | succ k =>
      have : k = nb := by simpa using e
      subst this
      simp [sg]
      omega
theorem step_ok {p : List Nat} {h h' : Bs} (hs : stepO p h = some h') : F_step_beside [.d (.tuple (p.map fI)), .d (bsD h)] = some (.d (bsD h'), [some (.d (.tuple (p.map fI))), some (.d (bsD h))]) := by
  unfold stepO at hs
  obtain ⟨nb, e1, hs⟩ := Option.bind_eq_some_iff.mp hs
  obtain ⟨a, e2, hs⟩ := Option.bind_eq_some_iff.mp hs
  obtain ⟨b, e3, hs⟩ := Option.bind_eq_some_iff.mp hs
  cases hs
  have hi := nb_int e1
  have g1 : (p.map fI)[h.1]? = some (fI a) := by rw [List.getElem?_map, e2]; rfl
  have g2 : (p.map fI)[nb]? = some (fI b) := by rw [List.getElem?_map, e3]; rfl
  have a1 := gItem_t (at_nat' g1)
  have a2 := gItem_t (at_nat' g2)
  generalize p.map fI = P at *
  have x1 : ∀ x4 : Option O, eOp2 gItem (pV (eVar 0)) (pV (eVar 2)) [some (.d (.tuple P)), some (.d (bsD h)), some (.d (.int (h.1 : Int))), some (.d (.int (sg h.2))), x4] = some (.d (fI a), [some (.d (.tuple P)), some (.d (bsD h)), some (.d (.int (h.1 : Int))), some (.d (.int (sg h.2))), x4]) := fun x4 => eOp2_v rfl rfl a1
  have x2 : ∀ x4 : Option O, eOp2 gItem (pV (eVar 0)) (pV (eOp2 gAdd (pV (eVar 2)) (pV (eVar 3)))) [some (.d (.tuple P)), some (.d (bsD h)), some (.d (.int (h.1 : Int))), some (.d (.int (sg h.2))), x4] = some (.d (fI b), [some (.d (.tuple P)), some (.d (bsD h)), some (.d (.int (h.1 : Int))), some (.d (.int (sg h.2))), x4]) := fun x4 =>
    eOp2_v (y := .d (.int (nb : Int))) rfl (eOp2_v rfl rfl (by simp only [gAdd]; rw [hi])) a2
  have b1 : sTg (tTupl [(tName 2), (tName 3)]) (eVar 1) [some (.d (.tuple P)), some (.d (bsD h)), none, none, none] = some (.nx [some (.d (.tuple P)), some (.d (bsD h)), some (.d (.int (h.1 : Int))), some (.d (.int (sg h.2))), none]) := rfl
  have b2 : sSetF 4 (eIf (bOp2 gGt (pV (eOp2 gItem (pV (eVar 0)) (pV (eOp2 gAdd (pV (eVar 2)) (pV (eVar 3)))))) (pV (eOp2 gItem (pV (eVar 0)) (pV (eVar 2))))) (eC (.int 1)) (eOp1 gNeg (pV (eC (.int 1))))) [some (.d (.tuple P)), some (.d (bsD h)), some (.d (.int (h.1 : Int))), some (.d (.int (sg h.2))), none] =
      some (.nx [some (.d (.tuple P)), some (.d (bsD h)), some (.d (.int (h.1 : Int))), some (.d (.int (sg h.2))), some (.d (.int (sg (decide (a < b)))))]) := by
    by_cases hab : a < b
    · have : (a : Int) < (b : Int) := by omega
      have s1 : sg (decide (a < b)) = 1 := by simp [sg, hab]
      rw [s1]
      simp [-eOp2, x1, x2, fI, this]
    · have : ¬ (a : Int) < (b : Int) := by omega
      have s1 : sg (decide (a < b)) = -1 := by simp [sg, hab]
      rw [s1]
      simp [-eOp2, x1, x2, fI, this]
  refine runDef_rt (e := [some (.d (.tuple P)), some (.d (bsD h)), some (.d (.int (h.1 : Int))), some (.d (.int (sg h.2))), some (.d (.int (sg (decide (a < b)))))]) rfl ?_
  show B_step_beside [some (.d (.tuple P)), some (.d (bsD h)), none, none, none] = _
  unfold B_step_beside
  rw [sSeq_run b1, sSeq_run b2]
  have x3 := x1 (some (.d (.int (sg (decide (a < b))))))
  unfold sRet eTup
  show Option.bind (Option.bind (Option.bind (eOp2 gItem (pV (eVar 0)) (pV (eVar 2)) _) _) _) _ = _
  rw [x3]
  rfl
def walkO (p : List Nat) (b : Bs) : Nat → Bs → List Int → Option (Option (List Int))
  | 0, _, _ => none
  | k + 1, h, f => if f.length ≤ 2 * p.length then (stepO p h).bind fun h' => bif h'.1 == b.1 && h'.2 == b.2 then some (some (f ++ [pcI h])) else walkO p b k h' (f ++ [pcI h]) else some none
def condW : ExB := (bOp2 gLe (pV (eOp1 gLen (pS 3))) (pV (eOp2 gMul (pV (eC (.int 2))) (pV (eOp1 gLen (pV (eVar 0)))))))
def bodyW : Sx := (sSeq (sApp 3 (eCall F_piece_beside [none] (aCons (eVar 2) aNil)))
  (sSeq (sSetF 2 (eCall F_step_beside [none, none] (aCons (eVar 0) (aCons (eVar 2) aNil))))
  (sIf (bOp2 gEq (pV (eVar 2)) (pV (eVar 1))) (sRetS 3) sNil)))
abbrev EW (P : List D) (b h : Bs) (f : List Int) : Ev := [some (.d (.tuple P)), some (.d (bsD b)), some (.d (bsD h)), some (.l (zs f))]
theorem condW_ok {P : List D} {b h : Bs} {f : List Int} (hP : P.length ≤ 1000) : condW (EW P b h f) = some (decide (f.length ≤ 2 * P.length), EW P b h f) := by
  have g : eOp2 gMul (pV (eC (.int 2))) (pV (eOp1 gLen (pV (eVar 0)))) (EW P b h f) = some (.d (.int (2 * (P.length : Int))), EW P b h f) := eOp2_v rfl (eOp1_v rfl rfl) (gMul_ok (by omega) (by omega))
  have g0 : eOp1 gLen (pS 3) (EW P b h f) = some (.d (.int (f.length : Int)), EW P b h f) := by
    show some (O.d (.int ((zs f).length : Int)), _) = _
    rw [zs_len]
  have hd : decide ((f.length : Int) ≤ 2 * (P.length : Int)) = decide (f.length ≤ 2 * P.length) := by
    by_cases z : f.length ≤ 2 * P.length
    · have : (f.length : Int) ≤ 2 * (P.length : Int) := by omega
      simp [z, this]
    · have : ¬ (f.length : Int) ≤ 2 * (P.length : Int) := by omega
      simp [z, this]
  rw [← hd]
  exact bOp2_v g0 g rfl
theorem walkB_ok {p : List Nat} {b h h' : Bs} {f : List Int} (hs : stepO p h = some h') (hf : f.length < 1000000) : bodyW (EW (p.map fI) b h f) = if h'.1 == b.1 && h'.2 == b.2 then some (.rt (.l (zs (f ++ [pcI h]))) [some (.d (.tuple (p.map fI))), some (.d (bsD b)), some (.d (bsD h')), none]) else some (.nx (EW (p.map fI) b h' (f ++ [pcI h]))) := by
  have e1 := piece_ok h
  have e2 := step_ok hs
  have q := gEq_zs [(h'.1 : Int), sg h'.2] [(b.1 : Int), sg b.2]
  generalize p.map fI = P at *
  have v1 : eCall F_piece_beside [none] (aCons (eVar 2) aNil) (EW P b h f) = some (.d (.int (pcI h)), EW P b h f) := by
    unfold eCall
    show Option.bind (F_piece_beside [.d (bsD h)]) _ = _
    rw [e1]
    rfl
  have b1 : sApp 3 (eCall F_piece_beside [none] (aCons (eVar 2) aNil)) (EW P b h f) = some (.nx (EW P b h (f ++ [pcI h]))) := by
    rw [sApp_run (xs := zs f) rfl v1 rfl rfl (by rw [zs_len]; exact hf)]
    show some (Out.nx [_, _, _, some (O.l (zs f ++ [PyData.int (pcI h)]))]) = some (Out.nx [_, _, _, some (O.l (zs (f ++ [pcI h])))])
    unfold zs
    rw [List.map_append]
    rfl
  have v2 : eCall F_step_beside [none, none] (aCons (eVar 0) (aCons (eVar 2) aNil)) (EW P b h (f ++ [pcI h])) = some (.d (bsD h'), EW P b h (f ++ [pcI h])) := by
    unfold eCall
    show Option.bind (F_step_beside [.d (.tuple P), .d (bsD h)]) _ = _
    rw [e2, Option.bind_some, putBack_nn]
    rfl
  have b2 : sSetF 2 (eCall F_step_beside [none, none] (aCons (eVar 0) (aCons (eVar 2) aNil))) (EW P b h (f ++ [pcI h])) = some (.nx (EW P b h' (f ++ [pcI h]))) := by
    unfold sSetF
    rw [v2]
    rfl
  unfold bodyW
  rw [sSeq_run b1, sSeq_run b2]
  have hq : decide ([(h'.1 : Int), sg h'.2] = [(b.1 : Int), sg b.2]) = (h'.1 == b.1 && h'.2 == b.2) := by
    obtain ⟨n, x⟩ := h'
    obtain ⟨m, y⟩ := b
    by_cases hn : n = m
    · subst hn
      cases x <;> cases y <;> simp [sg]
    · have : ¬ (n : Int) = (m : Int) := by omega
      simp [hn, this]
  rw [hq] at q
  unfold sIf
  have c : bOp2 gEq (pV (eVar 2)) (pV (eVar 1)) (EW P b h' (f ++ [pcI h])) = some ((h'.1 == b.1 && h'.2 == b.2), EW P b h' (f ++ [pcI h])) := by
    exact bOp2_v rfl rfl q
  rw [c, Option.bind_some]
  cases (h'.1 == b.1 && h'.2 == b.2) <;> rfl
theorem walkL_ok {p : List Nat} {b : Bs} (hp : p.length ≤ 1000) : ∀ (k M : Nat) (h : Bs) (f : List Int) (r : Option (List Int)), walkO p b k h f = some r →
    ∃ e : Ev, whileLoop condW bodyW (M + k) (EW (p.map fI) b h f) = match r with
      | some f' => some (.rt (.l (zs f')) [some (.d (.tuple (p.map fI))), some (.d (bsD b)), e.headD none, none])
      | none => some (.nx [some (.d (.tuple (p.map fI))), some (.d (bsD b)), e.headD none, (e.drop 1).headD none])
  | 0, M, h, f, r, hw => by cases hw
  | k + 1, M, h, f, r, hw => by
    unfold walkO at hw
    have c := condW_ok (P := p.map fI) (b := b) (h := h) (f := f) (by rw [List.length_map]; exact hp)
    rw [List.length_map] at c
    rw [show M + (k + 1) = (M + k) + 1 by omega]
    unfold whileLoop
    rw [c, Option.bind_some]
    split at hw
    · rename_i hl
      rw [decide_eq_true hl]
      simp only [if_true]
      obtain ⟨h', e1, hw⟩ := Option.bind_eq_some_iff.mp hw
      have bd := walkB_ok (b := b) (f := f) e1 (by omega)
      rw [bd]
      cases hb : (h'.1 == b.1 && h'.2 == b.2) with
      | true =>
        rw [hb] at hw
        cases hw
        exact ⟨[some (.d (bsD h'))], rfl⟩
      | false =>
        rw [hb] at hw
        obtain ⟨e, q⟩ := walkL_ok hp k M h' _ r hw
        exact ⟨e, q⟩
    · rename_i hl
      cases hw
      rw [decide_eq_false hl]
      exact ⟨[some (.d (bsD h)), some (.l (zs f))], rfl⟩
def wD : Option (List Int) → O
  | none => .d .none
  | some f => .l (zs f)
theorem whileN {N k : Nat} (h : k ≤ N) : ∃ M, N = M + k := ⟨N - k, by omega⟩
theorem fu_ge {k : Nat} (h : k ≤ 1000000000) : k ≤ FU := h
theorem sWhile_eq {n : Nat} {c : ExB} {b : Sx} {e : Ev} : sWhile n c b e = whileLoop c b n e := rfl
theorem walk_ok {p : List Nat} {b : Bs} {r : Option (List Int)} (hp : p.length ≤ 1000) (h : walkO p b (2 * p.length + 2) b [] = some r) : F_walk_beside [.d (.tuple (p.map fI)), .d (bsD b)] = some (wD r, [some (.d (.tuple (p.map fI))), some (.d (bsD b))]) := by
  obtain ⟨N, hN⟩ : ∃ N, N = FU := ⟨_, rfl⟩
  obtain ⟨M, hM⟩ := whileN (N := N) (k := 2 * p.length + 2) (by
    rw [hN]
    exact fu_ge (by omega))
  obtain ⟨e, w⟩ := walkL_ok hp _ M b [] r h
  rw [← hM, ← sWhile_eq] at w
  have b1 : sPar2 2 3 (eVar 1) (eLst aNil) [some (.d (.tuple (p.map fI))), some (.d (bsD b)), none, none] = some (.nx (EW (p.map fI) b b [])) := rfl
  cases r with
  | some f =>
    refine runDef_rt (e := [some (.d (.tuple (p.map fI))), some (.d (bsD b)), e.headD none, none]) rfl ?_
    show B_walk_beside [some (.d (.tuple (p.map fI))), some (.d (bsD b)), none, none] = _
    unfold B_walk_beside
    rw [sSeq_run b1, ← hN]
    exact sSeq_rt (a := sWhile N condW bodyW) w
  | none =>
    refine runDef_rt (e := [some (.d (.tuple (p.map fI))), some (.d (bsD b)), e.headD none, (e.drop 1).headD none]) rfl ?_
    show B_walk_beside [some (.d (.tuple (p.map fI))), some (.d (bsD b)), none, none] = _
    unfold B_walk_beside
    rw [sSeq_run b1, ← hN]
    exact (sSeq_run (a := sWhile N condW bodyW) w).trans rfl
def sidesL (n : Nat) : List Bs := ((List.range (n - 1)).map fun k => (k, true)) ++ ((List.range (n - 1)).map fun k => (k + 1, false))
def wDD : Option (List Int) → D
  | none => .none
  | some f => .list (zs f)
def walksO (p : List Nat) : List Bs → Option (List (Option (List Int)))
  | [] => some []
  | b :: bs => (walkO p b (2 * p.length + 2) b []).bind fun w => (walksO p bs).bind fun ws => some (w :: ws)
theorem walksO_get {p : List Nat} : ∀ {bs : List Bs} {W : List (Option (List Int))}, walksO p bs = some W → bs.map (fun b => (walkO p b (2 * p.length + 2) b [])) = W.map some
  | [], W, h => by cases h; rfl
  | b :: bs, W, h => by
    unfold walksO at h
    obtain ⟨w, e1, h⟩ := Option.bind_eq_some_iff.mp h
    obtain ⟨ws, e2, h⟩ := Option.bind_eq_some_iff.mp h
    cases h
    rw [List.map_cons, List.map_cons, e1, walksO_get e2]
/-- is it a walk of this length that does not repeat a shorter one -/
def repB (C : Fn) (xs : List D) : Bool := match C [.d (.list xs)] with
  | some (.d (.bool r), _) => !r
  | _ => false
def repOk (C : Fn) (xs : List D) : Bool := match C [.d (.list xs)] with
  | some (.d (.bool _), _) => true
  | _ => false
def condD (C : Fn) (L : Nat) : D → Bool
  | .list xs => bif xs.length == L then repB C xs else false
  | _ => false
def okW (C : Fn) (L : Nat) : D → Bool
  | .list xs => bif xs.length == L then repOk C xs else true
  | .none => true
  | _ => false
def pickW : Option (Option (List Int)) → D
  | some w => wDD w
  | none => .none
def walkF (p : List Nat) : D → D
  | .tuple [.int n, .int s] => pickW (walkO p (n.toNat, decide (s = 1)) (2 * p.length + 2) (n.toNat, decide (s = 1)) [])
  | d => d
theorem walkF_bs (p : List Nat) (b : Bs) : walkF p (bsD b) = pickW (walkO p b (2 * p.length + 2) b []) := by
  obtain ⟨n, x⟩ := b
  cases x <;> rfl
def sideF1 : D → D := fun d => .tuple [d, .int 1]
def sideF2 : D → D := fun d => .tuple [d, .int (-1)]
def condE : ExB := (bAnd (bOp2 gIsNot (pV (eVar 6)) (pV (eC .none))) (bAnd (bOp2 gEq (pV (eOp1 gLen (pV (eVar 6)))) (pV (eVar 1))) (bNot (bTru (pV (eCall F_repeats [none] (aCons (eVar 6) aNil)))))))
theorem condE_ok {p : List Nat} {L : Nat} {x2 x3 : Option O} {d : D} (h : okW F_repeats L d = true) : condE [some (.d (.tuple (p.map fI))), some (.d (.int (L : Int))), x2, x3, none, none, some (.d d)] = some (condD F_repeats L d, [some (.d (.tuple (p.map fI))), some (.d (.int (L : Int))), x2, x3, none, none, some (.d d)]) := by
  cases d with
  | none => rfl
  | list xs =>
    have g1 : bOp2 gIsNot (pV (eVar 6)) (pV (eC .none)) [some (.d (.tuple (p.map fI))), some (.d (.int (L : Int))), x2, x3, none, none, some (.d (.list xs))] = some (true, [some (.d (.tuple (p.map fI))), some (.d (.int (L : Int))), x2, x3, none, none, some (.d (.list xs))]) := rfl
    have g2 : bOp2 gEq (pV (eOp1 gLen (pV (eVar 6)))) (pV (eVar 1)) [some (.d (.tuple (p.map fI))), some (.d (.int (L : Int))), x2, x3, none, none, some (.d (.list xs))] = some (xs.length == L, [some (.d (.tuple (p.map fI))), some (.d (.int (L : Int))), x2, x3, none, none, some (.d (.list xs))]) := by
      refine bOp2_v (x := .d (.int (xs.length : Int))) (y := .d (.int (L : Int))) (eOp1_v rfl rfl) rfl ?_
      simp only [gEq, oDat, Option.bind_some]
      rw [if_pos ⟨shaped_int _, shaped_int _⟩, eqv_int]
      by_cases hl : xs.length = L
      · subst hl; simp
      · have : ¬ (xs.length : Int) = (L : Int) := by omega
        have e1 : ((xs.length : Int) == (L : Int)) = false := by simpa using this
        have e2 : (xs.length == L) = false := by simpa using hl
        rw [e1, e2]
    unfold condE bAnd
    rw [g1, Option.bind_some]
    simp only [if_true]
    rw [g2, Option.bind_some]
    simp only [okW] at h
    simp only [condD]
    cases hl : (xs.length == L) with
    | false => rfl
    | true =>
      rw [hl, cond_true] at h
      rw [cond_true]
      simp only [if_true]
      unfold repOk at h
      unfold repB
      split at h
      · rename_i r fs hc
        have g3 : eCall F_repeats [none] (aCons (eVar 6) aNil) [some (.d (.tuple (p.map fI))), some (.d (.int (L : Int))), x2, x3, none, none, some (.d (.list xs))] = some (.d (.bool r), [some (.d (.tuple (p.map fI))), some (.d (.int (L : Int))), x2, x3, none, none, some (.d (.list xs))]) := by
          unfold eCall
          show Option.bind (F_repeats [.d (.list xs)]) _ = _
          rw [hc]
          cases fs <;> rfl
        unfold bNot bTru pV
        rw [g3]
        rfl
      · cases h
  | bool _ => simp [okW] at h
  | int _ => simp [okW] at h
  | str _ => simp [okW] at h
  | tuple _ => simp [okW] at h
  | dict _ => simp [okW] at h
def besideQ (C : Fn) (p : List Nat) (L : Nat) : Option Nat := if 1 ≤ p.length ∧ p.length ≤ 1000 then (walksO p (sidesL p.length)).bind fun W => if (W.map wDD).all (okW C L) = true then some ((W.map wDD).filter (condD C L)).length else none else none
theorem sides_len (n : Nat) : (sidesL n).length = 2 * (n - 1) := by
  simp [sidesL]
  omega
theorem beside_ok {p : List Nat} {L c : Nat} (h : besideQ F_repeats p L = some c) : F_beside_walks [.d (.tuple (p.map fI)), .d (.int (L : Int))] = some (.d (.int (c : Int)), [some (.d (.tuple (p.map fI))), some (.d (.int (L : Int)))]) := by
  unfold besideQ at h
  split at h
  case isFalse => cases h
  rename_i hc
  obtain ⟨h1, h2⟩ := hc
  obtain ⟨W, hW, h⟩ := Option.bind_eq_some_iff.mp h
  split at h
  case isFalse => cases h
  rename_i hok
  cases h
  have hg := walksO_get hW
  have hWl : W.length = 2 * (p.length - 1) := by
    have := congrArg List.length hg
    simp [sides_len] at this
    omega
  have hpl : (p.map fI).length = p.length := List.length_map ..
  have hlen : ((p.length : Int) - 1) = ((p.length - 1 : Nat) : Int) := by omega
  -- the sides
  have c1 := compLoop_all (own := [5]) (tg := tName 5) (elt := eTup (aCons (eVar 5) (aCons (eC (.int 1)) aNil))) (e := [some (.d (.tuple (p.map fI))), some (.d (.int (L : Int))), none, none, none, none, none]) sideF1 ((List.range (p.length - 1)).map fun k : Nat => PyData.int (k : Int)) fun x _ =>
    ⟨[some (.d (.tuple (p.map fI))), some (.d (.int (L : Int))), none, none, none, some (.d x), none], .d (.tuple [x, .int 1]), [some (.d (.tuple (p.map fI))), some (.d (.int (L : Int))), none, none, none, some (.d x), none], rfl, rfl, rfl, rfl⟩
  have i1 : iRange (eOp2 gSub (pV (eOp1 gLen (pV (eVar 0)))) (pV (eC (.int 1)))) [some (.d (.tuple (p.map fI))), some (.d (.int (L : Int))), none, none, none, none, none] = some ((List.range (p.length - 1)).map fun k : Nat => PyData.int (k : Int), [some (.d (.tuple (p.map fI))), some (.d (.int (L : Int))), none, none, none, none, none]) :=
    iRange_run (eOp2_v (x := .d (.int (p.length : Int))) (eOp1_v rfl (by simp)) rfl (by simp only [gSub]; rw [hlen])) (by omega)
  have x1 := eComp_run i1 (by simp; omega) rfl c1
  have c2 := compLoop_all (own := [5]) (tg := tName 5) (elt := eTup (aCons (eVar 5) (aCons (eOp1 gNeg (pV (eC (.int 1)))) aNil))) (e := [some (.d (.tuple (p.map fI))), some (.d (.int (L : Int))), none, none, none, none, none]) sideF2 (rangeD 1 (p.length : Int)) fun x _ =>
    ⟨[some (.d (.tuple (p.map fI))), some (.d (.int (L : Int))), none, none, none, some (.d x), none], .d (.tuple [x, .int (-1)]), [some (.d (.tuple (p.map fI))), some (.d (.int (L : Int))), none, none, none, some (.d x), none], rfl, rfl, rfl, rfl⟩
  have i2 : iRange2 (eC (.int 1)) (eOp1 gLen (pV (eVar 0))) [some (.d (.tuple (p.map fI))), some (.d (.int (L : Int))), none, none, none, none, none] = some (rangeD 1 (p.length : Int), [some (.d (.tuple (p.map fI))), some (.d (.int (L : Int))), none, none, none, none, none]) := by
    have g : eOp1 gLen (pV (eVar 0)) [some (.d (.tuple (p.map fI))), some (.d (.int (L : Int))), none, none, none, none, none] = some (.d (.int (p.length : Int)), [some (.d (.tuple (p.map fI))), some (.d (.int (L : Int))), none, none, none, none, none]) := eOp1_v rfl (by simp)
    unfold iRange2 eC
    rw [Option.bind_some]
    show Option.bind (eOp1 gLen (pV (eVar 0)) [some (.d (.tuple (p.map fI))), some (.d (.int (L : Int))), none, none, none, none, none]) _ = _
    rw [g, Option.bind_some]
    show (if -1000000 ≤ (1 : Int) ∧ (1 : Int) ≤ 1000000 ∧ -1000000 ≤ (p.length : Int) ∧ (p.length : Int) ≤ 1000000 then some (rangeD 1 (p.length : Int), _) else none) = _
    rw [if_pos (by omega)]
  have hr : rangeD 1 (p.length : Int) = (List.range (p.length - 1)).map fun k : Nat => PyData.int (((k + 1 : Nat)) : Int) := by
    unfold rangeD
    rw [show ((p.length : Int) - 1).toNat = p.length - 1 by omega]
    apply List.map_congr_left
    intro k _
    congr 1
    omega
  have x2 := eComp_run i2 (by rw [hr]; simp; omega) rfl c2
  have hs : (((List.range (p.length - 1)).map fun k : Nat => PyData.int (k : Int)).map sideF1) ++ ((rangeD 1 (p.length : Int)).map sideF2) = (sidesL p.length).map bsD := by
    rw [hr]
    unfold sidesL
    rw [List.map_append, List.map_map, List.map_map, List.map_map, List.map_map]
    rfl
  have b1 : sSetF 2 (eOp2 gAdd (pV (eComp [5] (iRange (eOp2 gSub (pV (eOp1 gLen (pV (eVar 0)))) (pV (eC (.int 1))))) (tName 5) bYes (eTup (aCons (eVar 5) (aCons (eC (.int 1)) aNil))))) (pV (eComp [5] (iRange2 (eC (.int 1)) (eOp1 gLen (pV (eVar 0)))) (tName 5) bYes (eTup (aCons (eVar 5) (aCons (eOp1 gNeg (pV (eC (.int 1)))) aNil)))))) [some (.d (.tuple (p.map fI))), some (.d (.int (L : Int))), none, none, none, none, none] = some (.nx [some (.d (.tuple (p.map fI))), some (.d (.int (L : Int))), some (.d (.list ((sidesL p.length).map bsD))), none, none, none, none]) := by
    have g := eOp2_v (g := gAdd) x1 x2 (z := .l ((sidesL p.length).map bsD)) (by
      simp only [gAdd, oLst, Option.bind_some]
      rw [if_pos (by rw [hr]; simp; omega), hs])
    unfold sSetF
    rw [g]
    rfl
  -- the walks
  have hw : ∀ b ∈ sidesL p.length, ∃ w, walkO p b (2 * p.length + 2) b [] = some w := fun b hb => by
    have hm : walkO p b (2 * p.length + 2) b [] ∈ W.map some := by
      rw [← hg]
      exact List.mem_map.mpr ⟨b, hb, rfl⟩
    obtain ⟨w, _, e⟩ := List.mem_map.mp hm
    exact ⟨w, e.symm⟩
  have c3 := compLoop_all (own := [4]) (tg := tName 4) (elt := eCall F_walk_beside [none, none] (aCons (eVar 0) (aCons (eVar 4) aNil))) (e := [some (.d (.tuple (p.map fI))), some (.d (.int (L : Int))), some (.d (.list ((sidesL p.length).map bsD))), none, none, none, none]) (walkF p) ((sidesL p.length).map bsD) fun x hx => by
    obtain ⟨b, hb, rfl⟩ := List.mem_map.mp hx
    obtain ⟨w, e⟩ := hw b hb
    have k := walk_ok h2 e
    refine ⟨[some (.d (.tuple (p.map fI))), some (.d (.int (L : Int))), some (.d (.list ((sidesL p.length).map bsD))), none, some (.d (bsD b)), none, none], wD w, [some (.d (.tuple (p.map fI))), some (.d (.int (L : Int))), some (.d (.list ((sidesL p.length).map bsD))), none, some (.d (bsD b)), none, none], rfl, ?_, ?_, rfl⟩
    · unfold eCall
      show Option.bind (F_walk_beside [.d (.tuple (p.map fI)), .d (bsD b)]) _ = _
      rw [k, Option.bind_some, putBack_nn]
      rfl
    · rw [walkF_bs, e]
      cases w <;> rfl
  have hm3 : ((sidesL p.length).map bsD).map (walkF p) = W.map wDD := by
    have : ((sidesL p.length).map bsD).map (walkF p) = ((sidesL p.length).map fun b => walkO p b (2 * p.length + 2) b []).map pickW := by
      rw [List.map_map, List.map_map]
      apply List.map_congr_left
      intro b _
      exact walkF_bs p b
    rw [this, hg, List.map_map]
    rfl
  rw [hm3] at c3
  have i3 : iSeq (eVar 2) [some (.d (.tuple (p.map fI))), some (.d (.int (L : Int))), some (.d (.list ((sidesL p.length).map bsD))), none, none, none, none] = some ((sidesL p.length).map bsD, [some (.d (.tuple (p.map fI))), some (.d (.int (L : Int))), some (.d (.list ((sidesL p.length).map bsD))), none, none, none, none]) := rfl
  have x3 := eComp_run i3 (by rw [List.length_map, sides_len]; omega) rfl c3
  have b2 : sSetF 3 (eComp [4] (iSeq (eVar 2)) (tName 4) bYes (eCall F_walk_beside [none, none] (aCons (eVar 0) (aCons (eVar 4) aNil)))) [some (.d (.tuple (p.map fI))), some (.d (.int (L : Int))), some (.d (.list ((sidesL p.length).map bsD))), none, none, none, none] = some (.nx [some (.d (.tuple (p.map fI))), some (.d (.int (L : Int))), some (.d (.list ((sidesL p.length).map bsD))), some (.d (.list (W.map wDD))), none, none, none]) := by
    unfold sSetF
    rw [x3]
    rfl
  -- how many
  have c4 := compLoop_pure (own := [6]) (tg := tName 6) (cond := condE) (elt := eVar 6) (e := [some (.d (.tuple (p.map fI))), some (.d (.int (L : Int))), some (.d (.list ((sidesL p.length).map bsD))), some (.d (.list (W.map wDD))), none, none, none]) (condD F_repeats L) id (W.map wDD) fun x hx =>
    ⟨[some (.d (.tuple (p.map fI))), some (.d (.int (L : Int))), some (.d (.list ((sidesL p.length).map bsD))), some (.d (.list (W.map wDD))), none, none, some (.d x)], [some (.d (.tuple (p.map fI))), some (.d (.int (L : Int))), some (.d (.list ((sidesL p.length).map bsD))), some (.d (.list (W.map wDD))), none, none, some (.d x)], rfl, condE_ok (List.all_eq_true.mp hok x hx), fun _ => rfl, fun _ => ⟨.d x, [some (.d (.tuple (p.map fI))), some (.d (.int (L : Int))), some (.d (.list ((sidesL p.length).map bsD))), some (.d (.list (W.map wDD))), none, none, some (.d x)], rfl, rfl, rfl⟩⟩
  rw [List.map_id] at c4
  have i4 : iSeq (eVar 3) [some (.d (.tuple (p.map fI))), some (.d (.int (L : Int))), some (.d (.list ((sidesL p.length).map bsD))), some (.d (.list (W.map wDD))), none, none, none] = some (W.map wDD, [some (.d (.tuple (p.map fI))), some (.d (.int (L : Int))), some (.d (.list ((sidesL p.length).map bsD))), some (.d (.list (W.map wDD))), none, none, none]) := rfl
  have x4 := eComp_run i4 (by rw [List.length_map]; omega) rfl c4
  have x5 := eOp1_v (g := gLen) (z := .d (.int (((W.map wDD).filter (condD F_repeats L)).length : Int))) x4 (by simp only [gLen, oSeq, Option.bind_some])
  refine runDef_rt (e := [some (.d (.tuple (p.map fI))), some (.d (.int (L : Int))), some (.d (.list ((sidesL p.length).map bsD))), some (.d (.list (W.map wDD))), none, none, none]) rfl ?_
  show B_beside_walks [some (.d (.tuple (p.map fI))), some (.d (.int (L : Int))), none, none, none, none, none] = _
  unfold B_beside_walks
  rw [sSeq_run b1, sSeq_run b2]
  unfold condE at x5
  unfold sRet
  rw [x5]
  rfl
def F_bwQ (C : Fn) : Fn := fun os => match os with
  | [.d (.tuple xs), .d (.int (.ofNat n))] => (match natsOf xs with
    | some p => (match besideQ C p n with
      | some c => some (.d (.int (c : Int)), [some (.d (.tuple xs)), some (.d (.int (.ofNat n)))])
      | none => F_beside_walks os)
    | none => F_beside_walks os)
  | _ => F_beside_walks os
theorem F_bwQ_eq : F_bwQ F_repeats = F_beside_walks := by
  funext os
  unfold F_bwQ
  split
  · split
    · split
      · rename_i xs n x1 p hp x2 c h
        rw [natsOf_eq hp]
        exact (beside_ok h).symm
      · rfl
    · rfl
  · rfl
end Sh

/-! printed by fast.py -/
namespace Sh.K65
open PySem Sh
noncomputable def B_law_has_bandR : Sx :=
  (sSeq (sFor (iRange (eOp2R gSubR (pV (eOp1R gLenR (pV (eVarR 0)))) (pV (eC (.int 1))))) (tNameR 1) (sSeq (sSetR 2 (eVarR 1))
  (sFor (iRange (eOp1R gLenR (pV (eVarR 0)))) (tNameR 3) (sSeq (sIf (bOp2R gNe (pV (eOp1R gAbs (pV (eOp2R gSubR (pV (eOp2R gItem (pV (eVarR 0)) (pV (eOp2R gAddR (pV (eVarR 2)) (pV (eC (.int 1))))))) (pV (eOp2R gItem (pV (eVarR 0)) (pV (eVarR 2)))))))) (pV (eC (.int 1)))) sBrk sNil)
  (sSeq (sSetFR 2 (eOp2R gMin2R (pV (eOp2R gItem (pV (eVarR 0)) (pV (eVarR 2)))) (pV (eOp2R gItem (pV (eVarR 0)) (pV (eOp2R gAddR (pV (eVarR 2)) (pV (eC (.int 1)))))))))
  (sIf (bOp2R gEq (pV (eVarR 2)) (pV (eVarR 1))) (sRet (eC (.bool true))) sNil))))))
  (sRet (eC (.bool false))))
noncomputable def F_law_has_bandR : Fn := runDefR 4 1 (fun i => [true].getD i false) B_law_has_bandR
theorem F_law_has_bandR_eq : F_law_has_bandR = F_law_has_band := by
  unfold F_law_has_bandR F_law_has_band B_law_has_bandR B_law_has_band
  first | rfl | (simp only [resR_eq, eVarR_eq, eFrzR_eq, pSR_eq, eOp1R_eq, eOp2R_eq, bOp2R_eq, bTruR_eq, aOwnR_eq, putBackR_eq, clearER_eq, eCallR_eq, tNameR_eq, wipeER_eq, backER_eq, plainER_eq, compLoopR_eq, eCompR_eq, compLoop2R_eq, eComp2R_eq, sSetR_eq, sSetFR_eq, sPar2R_eq, sPar3R_eq, oNameR_eq, oSubR_eq, sSubR_eq, sAppR_eq, sRetSR_eq, finsR_eq, runDefR_eq, eCutR_eq, eGet2R_eq, sDPut'R_eq, sLockR_eq, iDictR_eq, sMoveR_eq, genLoopR_eq, eGenBR_eq, sumLoopR_eq, eGenSR_eq, ePopR_eq, eIdxR_eq, kVarR_eq, eItem2R_eq, sSub2R_eq, sAppGR_eq, iRngVR_eq, gAddR_eq, gSubR_eq, gMulR_eq, gDivR_eq, gModR_eq, gMin2R_eq, gMax2R_eq, gLenR_eq, gMinQR_eq, gMaxQR_eq, gSumR_eq, gNegR_eq, gIntR_eq, gSortedR_eq]; done) | (simp only [resR_eq, eVarR_eq, eFrzR_eq, pSR_eq, eOp1R_eq, eOp2R_eq, bOp2R_eq, bTruR_eq, aOwnR_eq, putBackR_eq, clearER_eq, eCallR_eq, tNameR_eq, wipeER_eq, backER_eq, plainER_eq, compLoopR_eq, eCompR_eq, compLoop2R_eq, eComp2R_eq, sSetR_eq, sSetFR_eq, sPar2R_eq, sPar3R_eq, oNameR_eq, oSubR_eq, sSubR_eq, sAppR_eq, sRetSR_eq, finsR_eq, runDefR_eq, eCutR_eq, eGet2R_eq, sDPut'R_eq, sLockR_eq, iDictR_eq, sMoveR_eq, genLoopR_eq, eGenBR_eq, sumLoopR_eq, eGenSR_eq, ePopR_eq, eIdxR_eq, kVarR_eq, eItem2R_eq, sSub2R_eq, sAppGR_eq, iRngVR_eq, gAddR_eq, gSubR_eq, gMulR_eq, gDivR_eq, gModR_eq, gMin2R_eq, gMax2R_eq, gLenR_eq, gMinQR_eq, gMaxQR_eq, gSumR_eq, gNegR_eq, gIntR_eq, gSortedR_eq]; rfl)
noncomputable def B_law_nextR : Sx :=
  (sSeq (sSetFR 3 (eOp2R gMin2R (pV (eOp2R gDivR (pV (eVarR 1)) (pV (eVarR 2)))) (pV (eOp2R gSubR (pV (eOp1R gLenR (pV (eVarR 0)))) (pV (eC (.int 2)))))))
  (sRet (eOp2R gAddR (pV (eOp2R gMulR (pV (eOp2R gItem (pV (eVarR 0)) (pV (eVarR 3)))) (pV (eVarR 2)))) (pV (eOp2R gMulR (pV (eOp2R gSubR (pV (eOp2R gItem (pV (eVarR 0)) (pV (eOp2R gAddR (pV (eVarR 3)) (pV (eC (.int 1))))))) (pV (eOp2R gItem (pV (eVarR 0)) (pV (eVarR 3)))))) (pV (eOp2R gSubR (pV (eVarR 1)) (pV (eOp2R gMulR (pV (eVarR 3)) (pV (eVarR 2)))))))))))
noncomputable def F_law_nextR : Fn := runDefR 4 3 (fun i => [true, true, true].getD i false) B_law_nextR
theorem F_law_nextR_eq : F_law_nextR = F_law_next := by
  unfold F_law_nextR F_law_next B_law_nextR B_law_next
  first | rfl | (simp only [resR_eq, eVarR_eq, eFrzR_eq, pSR_eq, eOp1R_eq, eOp2R_eq, bOp2R_eq, bTruR_eq, aOwnR_eq, putBackR_eq, clearER_eq, eCallR_eq, tNameR_eq, wipeER_eq, backER_eq, plainER_eq, compLoopR_eq, eCompR_eq, compLoop2R_eq, eComp2R_eq, sSetR_eq, sSetFR_eq, sPar2R_eq, sPar3R_eq, oNameR_eq, oSubR_eq, sSubR_eq, sAppR_eq, sRetSR_eq, finsR_eq, runDefR_eq, eCutR_eq, eGet2R_eq, sDPut'R_eq, sLockR_eq, iDictR_eq, sMoveR_eq, genLoopR_eq, eGenBR_eq, sumLoopR_eq, eGenSR_eq, ePopR_eq, eIdxR_eq, kVarR_eq, eItem2R_eq, sSub2R_eq, sAppGR_eq, iRngVR_eq, gAddR_eq, gSubR_eq, gMulR_eq, gDivR_eq, gModR_eq, gMin2R_eq, gMax2R_eq, gLenR_eq, gMinQR_eq, gMaxQR_eq, gSumR_eq, gNegR_eq, gIntR_eq, gSortedR_eq]; done) | (simp only [resR_eq, eVarR_eq, eFrzR_eq, pSR_eq, eOp1R_eq, eOp2R_eq, bOp2R_eq, bTruR_eq, aOwnR_eq, putBackR_eq, clearER_eq, eCallR_eq, tNameR_eq, wipeER_eq, backER_eq, plainER_eq, compLoopR_eq, eCompR_eq, compLoop2R_eq, eComp2R_eq, sSetR_eq, sSetFR_eq, sPar2R_eq, sPar3R_eq, oNameR_eq, oSubR_eq, sSubR_eq, sAppR_eq, sRetSR_eq, finsR_eq, runDefR_eq, eCutR_eq, eGet2R_eq, sDPut'R_eq, sLockR_eq, iDictR_eq, sMoveR_eq, genLoopR_eq, eGenBR_eq, sumLoopR_eq, eGenSR_eq, ePopR_eq, eIdxR_eq, kVarR_eq, eItem2R_eq, sSub2R_eq, sAppGR_eq, iRngVR_eq, gAddR_eq, gSubR_eq, gMulR_eq, gDivR_eq, gModR_eq, gMin2R_eq, gMax2R_eq, gLenR_eq, gMinQR_eq, gMaxQR_eq, gSumR_eq, gNegR_eq, gIntR_eq, gSortedR_eq]; rfl)
noncomputable def B_law_pointsR : Sx :=
  (sSeq (sPar2R 2 3 (eFr (eCompR [18] (iRange (eOp2R gSubR (pV (eOp1R gLenR (pV (eVarR 0)))) (pV (eC (.int 1))))) (tNameR 18) bYes (eTup (aCons (eTup aNil) (aCons (eVarR 18) (aCons (eC (.int 1)) (aCons (eC (.int 0)) aNil))))))) (eLst aNil))
  (sSeq (sFor (iRange (eVarR 1)) (tNameR 4) (sSeq (sSetFR 5 (eLst aNil))
  (sSeq (sFor (iSeq (eVarR 2)) (tTupl [(tNameR 6), (tNameR 7), (tNameR 8), (tNameR 9)]) (sSeq (sPar2R 10 11 (eFr (eOp1R gMinQR (pV (eCutR (pV (eVarR 0)) (hAt (eVarR 7)) (hAt (eOp2R gAddR (pV (eVarR 7)) (pV (eC (.int 2))))))))) (eFr (eOp1R gMaxQR (pV (eCutR (pV (eVarR 0)) (hAt (eVarR 7)) (hAt (eOp2R gAddR (pV (eVarR 7)) (pV (eC (.int 2))))))))))
  (sSeq (sSetR 12 (eOp2R gSubR (pV (eOp2R gItem (pV (eVarR 0)) (pV (eOp2R gAddR (pV (eVarR 7)) (pV (eC (.int 1))))))) (pV (eOp2R gItem (pV (eVarR 0)) (pV (eVarR 7))))))
  (sSeq (sSetR 13 (eTup (aCons (eOp2R gAddR (pV (eVarR 6)) (pV (eTup (aCons (eVarR 7) aNil)))) (aCons (eOp2R gMulR (pV (eVarR 12)) (pV (eVarR 8))) (aCons (eOp2R gSubR (pV (eOp2R gAddR (pV (eOp2R gMulR (pV (eVarR 12)) (pV (eVarR 9)))) (pV (eOp2R gItem (pV (eVarR 0)) (pV (eVarR 7)))))) (pV (eOp2R gMulR (pV (eVarR 12)) (pV (eVarR 7))))) aNil)))))
  (sSetFR 5 (eOp2R gAddR (pV (eVarR 5)) (pV (eCompR [19] (iRange2 (eVarR 10) (eVarR 11)) (tNameR 19) bYes (eTup (aCons (eOp2R gItem (pV (eVarR 13)) (pV (eC (.int 0)))) (aCons (eVarR 19) (aCons (eOp2R gItem (pV (eVarR 13)) (pV (eC (.int 1)))) (aCons (eOp2R gItem (pV (eVarR 13)) (pV (eC (.int 2)))) aNil)))))))))))))
  (sSetR 2 (eVarR 5)))))
  (sSeq (sFor (iSeq (eVarR 2)) (tTupl [(tNameR 6), (tNameR 7), (tNameR 8), (tNameR 9)]) (sIf (bAnd (bOp2R gEq (pV (eVarR 7)) (pV (eOp2R gItem (pV (eVarR 6)) (pV (eC (.int 0)))))) (bOp2R gNe (pV (eVarR 8)) (pV (eC (.int 1))))) (sSeq (sTg (tTupl [(tNameR 14), (tNameR 15)]) (eIf (bOp2R gLt (pV (eVarR 8)) (pV (eC (.int 1)))) (eTup (aCons (eVarR 9) (aCons (eOp2R gSubR (pV (eC (.int 1))) (pV (eVarR 8))) aNil))) (eTup (aCons (eOp2R gSubR (pV (eC (.int 0))) (pV (eVarR 9))) (aCons (eOp2R gSubR (pV (eVarR 8)) (pV (eC (.int 1)))) aNil)))))
  (sSeq (sPar2R 16 17 (eFr (eCallR F_law_nextR [none, none, none] (aCons (eVarR 0) (aCons (eVarR 14) (aCons (eVarR 15) aNil))))) (eC (.int 1)))
  (sSeq (sFor (iRange (eVarR 1)) (tNameR 4) (sSeq (sIf (bOp2R gEq (pV (eVarR 16)) (pV (eVarR 14))) sBrk sNil)
  (sPar2R 16 17 (eFr (eCallR F_law_nextR [none, none, none] (aCons (eVarR 0) (aCons (eVarR 16) (aCons (eVarR 15) aNil))))) (eFr (eOp2R gAddR (pV (eVarR 17)) (pV (eC (.int 1))))))))
  (sIf (bOp2R gEq (pV (eVarR 17)) (pV (eVarR 1))) (sAppR 3 (eTup (aCons (eVarR 14) (aCons (eVarR 15) aNil)))) sNil)))) sNil))
  (sRetSR 3))))
noncomputable def F_law_pointsR : Fn := runDefR 20 2 (fun i => [true, true].getD i false) B_law_pointsR
theorem F_law_pointsR_eq : F_law_pointsR = F_law_points := by
  unfold F_law_pointsR F_law_points B_law_pointsR B_law_points
  first | rfl | (simp only [resR_eq, eVarR_eq, eFrzR_eq, pSR_eq, eOp1R_eq, eOp2R_eq, bOp2R_eq, bTruR_eq, aOwnR_eq, putBackR_eq, clearER_eq, eCallR_eq, tNameR_eq, wipeER_eq, backER_eq, plainER_eq, compLoopR_eq, eCompR_eq, compLoop2R_eq, eComp2R_eq, sSetR_eq, sSetFR_eq, sPar2R_eq, sPar3R_eq, oNameR_eq, oSubR_eq, sSubR_eq, sAppR_eq, sRetSR_eq, finsR_eq, runDefR_eq, eCutR_eq, eGet2R_eq, sDPut'R_eq, sLockR_eq, iDictR_eq, sMoveR_eq, genLoopR_eq, eGenBR_eq, sumLoopR_eq, eGenSR_eq, ePopR_eq, eIdxR_eq, kVarR_eq, eItem2R_eq, sSub2R_eq, sAppGR_eq, iRngVR_eq, gAddR_eq, gSubR_eq, gMulR_eq, gDivR_eq, gModR_eq, gMin2R_eq, gMax2R_eq, gLenR_eq, gMinQR_eq, gMaxQR_eq, gSumR_eq, gNegR_eq, gIntR_eq, gSortedR_eq, F_law_nextR_eq]; done) | (simp only [resR_eq, eVarR_eq, eFrzR_eq, pSR_eq, eOp1R_eq, eOp2R_eq, bOp2R_eq, bTruR_eq, aOwnR_eq, putBackR_eq, clearER_eq, eCallR_eq, tNameR_eq, wipeER_eq, backER_eq, plainER_eq, compLoopR_eq, eCompR_eq, compLoop2R_eq, eComp2R_eq, sSetR_eq, sSetFR_eq, sPar2R_eq, sPar3R_eq, oNameR_eq, oSubR_eq, sSubR_eq, sAppR_eq, sRetSR_eq, finsR_eq, runDefR_eq, eCutR_eq, eGet2R_eq, sDPut'R_eq, sLockR_eq, iDictR_eq, sMoveR_eq, genLoopR_eq, eGenBR_eq, sumLoopR_eq, eGenSR_eq, ePopR_eq, eIdxR_eq, kVarR_eq, eItem2R_eq, sSub2R_eq, sAppGR_eq, iRngVR_eq, gAddR_eq, gSubR_eq, gMulR_eq, gDivR_eq, gModR_eq, gMin2R_eq, gMax2R_eq, gLenR_eq, gMinQR_eq, gMaxQR_eq, gSumR_eq, gNegR_eq, gIntR_eq, gSortedR_eq, F_law_nextR_eq]; rfl)
noncomputable def B_is_inR : Sx :=
  (sRet (eAnd (eOp1R (gIsa ["int"]) (pV (eVarR 0))) (eAnd (eNot (eOp1R (gIsa ["bool"]) (pV (eVarR 0)))) (eChain gLe gLe (eVarR 1) (eVarR 0) (eVarR 2)))))
noncomputable def F_is_inR : Fn := runDefR 3 3 (fun i => [true, true, true].getD i false) B_is_inR
theorem F_is_inR_eq : F_is_inR = F_is_in := by
  unfold F_is_inR F_is_in B_is_inR B_is_in
  first | rfl | (simp only [resR_eq, eVarR_eq, eFrzR_eq, pSR_eq, eOp1R_eq, eOp2R_eq, bOp2R_eq, bTruR_eq, aOwnR_eq, putBackR_eq, clearER_eq, eCallR_eq, tNameR_eq, wipeER_eq, backER_eq, plainER_eq, compLoopR_eq, eCompR_eq, compLoop2R_eq, eComp2R_eq, sSetR_eq, sSetFR_eq, sPar2R_eq, sPar3R_eq, oNameR_eq, oSubR_eq, sSubR_eq, sAppR_eq, sRetSR_eq, finsR_eq, runDefR_eq, eCutR_eq, eGet2R_eq, sDPut'R_eq, sLockR_eq, iDictR_eq, sMoveR_eq, genLoopR_eq, eGenBR_eq, sumLoopR_eq, eGenSR_eq, ePopR_eq, eIdxR_eq, kVarR_eq, eItem2R_eq, sSub2R_eq, sAppGR_eq, iRngVR_eq, gAddR_eq, gSubR_eq, gMulR_eq, gDivR_eq, gModR_eq, gMin2R_eq, gMax2R_eq, gLenR_eq, gMinQR_eq, gMaxQR_eq, gSumR_eq, gNegR_eq, gIntR_eq, gSortedR_eq]; done) | (simp only [resR_eq, eVarR_eq, eFrzR_eq, pSR_eq, eOp1R_eq, eOp2R_eq, bOp2R_eq, bTruR_eq, aOwnR_eq, putBackR_eq, clearER_eq, eCallR_eq, tNameR_eq, wipeER_eq, backER_eq, plainER_eq, compLoopR_eq, eCompR_eq, compLoop2R_eq, eComp2R_eq, sSetR_eq, sSetFR_eq, sPar2R_eq, sPar3R_eq, oNameR_eq, oSubR_eq, sSubR_eq, sAppR_eq, sRetSR_eq, finsR_eq, runDefR_eq, eCutR_eq, eGet2R_eq, sDPut'R_eq, sLockR_eq, iDictR_eq, sMoveR_eq, genLoopR_eq, eGenBR_eq, sumLoopR_eq, eGenSR_eq, ePopR_eq, eIdxR_eq, kVarR_eq, eItem2R_eq, sSub2R_eq, sAppGR_eq, iRngVR_eq, gAddR_eq, gSubR_eq, gMulR_eq, gDivR_eq, gModR_eq, gMin2R_eq, gMax2R_eq, gLenR_eq, gMinQR_eq, gMaxQR_eq, gSumR_eq, gNegR_eq, gIntR_eq, gSortedR_eq]; rfl)
noncomputable def B_need_patternR : Sx :=
  (sSeq (sIf (bOr (bNot (bTruR (pV (eOp1R (gIsa ["tuple"]) (pV (eVarR 0)))))) (bNot (bChain gLe gLe (eC (.int 1)) (eOp1R gLenR (pV (eVarR 0))) (eC (.int 9))))) (sRaise ⟨"BadPattern", none⟩) sNil)
  (sSeq (sIf (bNot (bTruR (pV (eGenBR [3] (iSeq (eVarR 0)) (tNameR 3) bYes (eCallR F_is_inR [none, none, none] (aCons (eVarR 3) (aCons (eC (.int 0)) (aCons (eOp2R gSubR (pV (eOp1R gLenR (pV (eVarR 0)))) (pV (eC (.int 1)))) aNil)))) false)))) (sRaise ⟨"BadPattern", none⟩) sNil)
  (sSeq (sPar2R 1 2 (eC (.int 0)) (eDict false))
  (sSeq (sWhile FU (bOp2R gDNotIn (pV (eVarR 1)) (pSR 2)) (sSeq (sDPut'R 2 (eVarR 1) (eC (.bool true)))
  (sSetR 1 (eOp2R gItem (pV (eVarR 0)) (pV (eVarR 1))))))
  (sIf (bOp2R gLt (pV (eOp1R gLenR (pSR 2))) (pV (eOp1R gLenR (pV (eVarR 0))))) (sRaise ⟨"BadPattern", none⟩) sNil)))))
noncomputable def F_need_patternR : FnX := runDefX 4 1 (fun i => [true].getD i false) B_need_patternR
theorem F_need_patternR_eq : F_need_patternR = F_need_pattern := by
  unfold F_need_patternR F_need_pattern B_need_patternR B_need_pattern
  first | rfl | (simp only [resR_eq, eVarR_eq, eFrzR_eq, pSR_eq, eOp1R_eq, eOp2R_eq, bOp2R_eq, bTruR_eq, aOwnR_eq, putBackR_eq, clearER_eq, eCallR_eq, tNameR_eq, wipeER_eq, backER_eq, plainER_eq, compLoopR_eq, eCompR_eq, compLoop2R_eq, eComp2R_eq, sSetR_eq, sSetFR_eq, sPar2R_eq, sPar3R_eq, oNameR_eq, oSubR_eq, sSubR_eq, sAppR_eq, sRetSR_eq, finsR_eq, runDefR_eq, eCutR_eq, eGet2R_eq, sDPut'R_eq, sLockR_eq, iDictR_eq, sMoveR_eq, genLoopR_eq, eGenBR_eq, sumLoopR_eq, eGenSR_eq, ePopR_eq, eIdxR_eq, kVarR_eq, eItem2R_eq, sSub2R_eq, sAppGR_eq, iRngVR_eq, gAddR_eq, gSubR_eq, gMulR_eq, gDivR_eq, gModR_eq, gMin2R_eq, gMax2R_eq, gLenR_eq, gMinQR_eq, gMaxQR_eq, gSumR_eq, gNegR_eq, gIntR_eq, gSortedR_eq, F_is_inR_eq]; done) | (simp only [resR_eq, eVarR_eq, eFrzR_eq, pSR_eq, eOp1R_eq, eOp2R_eq, bOp2R_eq, bTruR_eq, aOwnR_eq, putBackR_eq, clearER_eq, eCallR_eq, tNameR_eq, wipeER_eq, backER_eq, plainER_eq, compLoopR_eq, eCompR_eq, compLoop2R_eq, eComp2R_eq, sSetR_eq, sSetFR_eq, sPar2R_eq, sPar3R_eq, oNameR_eq, oSubR_eq, sSubR_eq, sAppR_eq, sRetSR_eq, finsR_eq, runDefR_eq, eCutR_eq, eGet2R_eq, sDPut'R_eq, sLockR_eq, iDictR_eq, sMoveR_eq, genLoopR_eq, eGenBR_eq, sumLoopR_eq, eGenSR_eq, ePopR_eq, eIdxR_eq, kVarR_eq, eItem2R_eq, sSub2R_eq, sAppGR_eq, iRngVR_eq, gAddR_eq, gSubR_eq, gMulR_eq, gDivR_eq, gModR_eq, gMin2R_eq, gMax2R_eq, gLenR_eq, gMinQR_eq, gMaxQR_eq, gSumR_eq, gNegR_eq, gIntR_eq, gSortedR_eq, F_is_inR_eq]; rfl)
noncomputable def B_need_numberR : Sx :=
  (sIf (bNot (bTruR (pV (eCallR F_is_inR [none, none, none] (aCons (eVarR 0) (aCons (eVarR 1) (aCons (eVarR 2) aNil))))))) (sRaise ⟨"BadNumber", none⟩) sNil)
noncomputable def F_need_numberR : FnX := runDefX 3 3 (fun i => [true, true, true].getD i false) B_need_numberR
theorem F_need_numberR_eq : F_need_numberR = F_need_number := by
  unfold F_need_numberR F_need_number B_need_numberR B_need_number
  first | rfl | (simp only [resR_eq, eVarR_eq, eFrzR_eq, pSR_eq, eOp1R_eq, eOp2R_eq, bOp2R_eq, bTruR_eq, aOwnR_eq, putBackR_eq, clearER_eq, eCallR_eq, tNameR_eq, wipeER_eq, backER_eq, plainER_eq, compLoopR_eq, eCompR_eq, compLoop2R_eq, eComp2R_eq, sSetR_eq, sSetFR_eq, sPar2R_eq, sPar3R_eq, oNameR_eq, oSubR_eq, sSubR_eq, sAppR_eq, sRetSR_eq, finsR_eq, runDefR_eq, eCutR_eq, eGet2R_eq, sDPut'R_eq, sLockR_eq, iDictR_eq, sMoveR_eq, genLoopR_eq, eGenBR_eq, sumLoopR_eq, eGenSR_eq, ePopR_eq, eIdxR_eq, kVarR_eq, eItem2R_eq, sSub2R_eq, sAppGR_eq, iRngVR_eq, gAddR_eq, gSubR_eq, gMulR_eq, gDivR_eq, gModR_eq, gMin2R_eq, gMax2R_eq, gLenR_eq, gMinQR_eq, gMaxQR_eq, gSumR_eq, gNegR_eq, gIntR_eq, gSortedR_eq, F_is_inR_eq]; done) | (simp only [resR_eq, eVarR_eq, eFrzR_eq, pSR_eq, eOp1R_eq, eOp2R_eq, bOp2R_eq, bTruR_eq, aOwnR_eq, putBackR_eq, clearER_eq, eCallR_eq, tNameR_eq, wipeER_eq, backER_eq, plainER_eq, compLoopR_eq, eCompR_eq, compLoop2R_eq, eComp2R_eq, sSetR_eq, sSetFR_eq, sPar2R_eq, sPar3R_eq, oNameR_eq, oSubR_eq, sSubR_eq, sAppR_eq, sRetSR_eq, finsR_eq, runDefR_eq, eCutR_eq, eGet2R_eq, sDPut'R_eq, sLockR_eq, iDictR_eq, sMoveR_eq, genLoopR_eq, eGenBR_eq, sumLoopR_eq, eGenSR_eq, ePopR_eq, eIdxR_eq, kVarR_eq, eItem2R_eq, sSub2R_eq, sAppGR_eq, iRngVR_eq, gAddR_eq, gSubR_eq, gMulR_eq, gDivR_eq, gModR_eq, gMin2R_eq, gMax2R_eq, gLenR_eq, gMinQR_eq, gMaxQR_eq, gSumR_eq, gNegR_eq, gIntR_eq, gSortedR_eq, F_is_inR_eq]; rfl)
noncomputable def B_coveredR : Sx :=
  (sSeq (sTg (tLstl [(tNameR 2), (tNameR 3)]) (eOp1R gSortT (pV (eCutR (pV (eVarR 0)) (hAt (eVarR 1)) (hAt (eOp2R gAddR (pV (eVarR 1)) (pV (eC (.int 2)))))))))
  (sRet (eListR (iRange2 (eVarR 2) (eVarR 3)))))
noncomputable def F_coveredR : Fn := runDefR 4 2 (fun i => [true, true].getD i false) B_coveredR
theorem F_coveredR_eq : F_coveredR = F_covered := by
  unfold F_coveredR F_covered B_coveredR B_covered
  first | rfl | (simp only [resR_eq, eVarR_eq, eFrzR_eq, pSR_eq, eOp1R_eq, eOp2R_eq, bOp2R_eq, bTruR_eq, aOwnR_eq, putBackR_eq, clearER_eq, eCallR_eq, tNameR_eq, wipeER_eq, backER_eq, plainER_eq, compLoopR_eq, eCompR_eq, compLoop2R_eq, eComp2R_eq, sSetR_eq, sSetFR_eq, sPar2R_eq, sPar3R_eq, oNameR_eq, oSubR_eq, sSubR_eq, sAppR_eq, sRetSR_eq, finsR_eq, runDefR_eq, eCutR_eq, eGet2R_eq, sDPut'R_eq, sLockR_eq, iDictR_eq, sMoveR_eq, genLoopR_eq, eGenBR_eq, sumLoopR_eq, eGenSR_eq, ePopR_eq, eIdxR_eq, kVarR_eq, eItem2R_eq, sSub2R_eq, sAppGR_eq, iRngVR_eq, gAddR_eq, gSubR_eq, gMulR_eq, gDivR_eq, gModR_eq, gMin2R_eq, gMax2R_eq, gLenR_eq, gMinQR_eq, gMaxQR_eq, gSumR_eq, gNegR_eq, gIntR_eq, gSortedR_eq]; done) | (simp only [resR_eq, eVarR_eq, eFrzR_eq, pSR_eq, eOp1R_eq, eOp2R_eq, bOp2R_eq, bTruR_eq, aOwnR_eq, putBackR_eq, clearER_eq, eCallR_eq, tNameR_eq, wipeER_eq, backER_eq, plainER_eq, compLoopR_eq, eCompR_eq, compLoop2R_eq, eComp2R_eq, sSetR_eq, sSetFR_eq, sPar2R_eq, sPar3R_eq, oNameR_eq, oSubR_eq, sSubR_eq, sAppR_eq, sRetSR_eq, finsR_eq, runDefR_eq, eCutR_eq, eGet2R_eq, sDPut'R_eq, sLockR_eq, iDictR_eq, sMoveR_eq, genLoopR_eq, eGenBR_eq, sumLoopR_eq, eGenSR_eq, ePopR_eq, eIdxR_eq, kVarR_eq, eItem2R_eq, sSub2R_eq, sAppGR_eq, iRngVR_eq, gAddR_eq, gSubR_eq, gMulR_eq, gDivR_eq, gModR_eq, gMin2R_eq, gMax2R_eq, gLenR_eq, gMinQR_eq, gMaxQR_eq, gSumR_eq, gNegR_eq, gIntR_eq, gSortedR_eq]; rfl)
noncomputable def B_has_bandR : Sx :=
  (sSeq (sFor (iRange (eOp2R gSubR (pV (eOp1R gLenR (pV (eVarR 0)))) (pV (eC (.int 1))))) (tNameR 1) (sSeq (sPar2R 2 3 (eVarR 1) (eDict false))
  (sSeq (sWhile FU (bAnd (bOp2R gDNotIn (pV (eVarR 2)) (pSR 3)) (bOp2R gEq (pV (eOp1R gLenR (pV (eCallR F_coveredR [none, none] (aCons (eVarR 0) (aCons (eVarR 2) aNil)))))) (pV (eC (.int 1))))) (sSeq (sDPut'R 3 (eVarR 2) (eC (.bool true)))
  (sSetR 2 (eOp2R gItem (pV (eCallR F_coveredR [none, none] (aCons (eVarR 0) (aCons (eVarR 2) aNil)))) (pV (eC (.int 0)))))))
  (sIf (bAnd (bOp2R gEq (pV (eVarR 2)) (pV (eVarR 1))) (bOp2R gDIn (pV (eVarR 2)) (pSR 3))) (sRet (eC (.bool true))) sNil))))
  (sRet (eC (.bool false))))
noncomputable def F_has_bandR : Fn := runDefR 4 1 (fun i => [true].getD i false) B_has_bandR
theorem F_has_bandR_eq : F_has_bandR = F_has_band := by
  unfold F_has_bandR F_has_band B_has_bandR B_has_band
  first | rfl | (simp only [resR_eq, eVarR_eq, eFrzR_eq, pSR_eq, eOp1R_eq, eOp2R_eq, bOp2R_eq, bTruR_eq, aOwnR_eq, putBackR_eq, clearER_eq, eCallR_eq, tNameR_eq, wipeER_eq, backER_eq, plainER_eq, compLoopR_eq, eCompR_eq, compLoop2R_eq, eComp2R_eq, sSetR_eq, sSetFR_eq, sPar2R_eq, sPar3R_eq, oNameR_eq, oSubR_eq, sSubR_eq, sAppR_eq, sRetSR_eq, finsR_eq, runDefR_eq, eCutR_eq, eGet2R_eq, sDPut'R_eq, sLockR_eq, iDictR_eq, sMoveR_eq, genLoopR_eq, eGenBR_eq, sumLoopR_eq, eGenSR_eq, ePopR_eq, eIdxR_eq, kVarR_eq, eItem2R_eq, sSub2R_eq, sAppGR_eq, iRngVR_eq, gAddR_eq, gSubR_eq, gMulR_eq, gDivR_eq, gModR_eq, gMin2R_eq, gMax2R_eq, gLenR_eq, gMinQR_eq, gMaxQR_eq, gSumR_eq, gNegR_eq, gIntR_eq, gSortedR_eq, F_coveredR_eq]; done) | (simp only [resR_eq, eVarR_eq, eFrzR_eq, pSR_eq, eOp1R_eq, eOp2R_eq, bOp2R_eq, bTruR_eq, aOwnR_eq, putBackR_eq, clearER_eq, eCallR_eq, tNameR_eq, wipeER_eq, backER_eq, plainER_eq, compLoopR_eq, eCompR_eq, compLoop2R_eq, eComp2R_eq, sSetR_eq, sSetFR_eq, sPar2R_eq, sPar3R_eq, oNameR_eq, oSubR_eq, sSubR_eq, sAppR_eq, sRetSR_eq, finsR_eq, runDefR_eq, eCutR_eq, eGet2R_eq, sDPut'R_eq, sLockR_eq, iDictR_eq, sMoveR_eq, genLoopR_eq, eGenBR_eq, sumLoopR_eq, eGenSR_eq, ePopR_eq, eIdxR_eq, kVarR_eq, eItem2R_eq, sSub2R_eq, sAppGR_eq, iRngVR_eq, gAddR_eq, gSubR_eq, gMulR_eq, gDivR_eq, gModR_eq, gMin2R_eq, gMax2R_eq, gLenR_eq, gMinQR_eq, gMaxQR_eq, gSumR_eq, gNegR_eq, gIntR_eq, gSortedR_eq, F_coveredR_eq]; rfl)
noncomputable def F_closed_walksR : Fn := F_cwQ F_coveredR
theorem F_closed_walksR_eq : F_closed_walksR = F_closed_walks := by
  unfold F_closed_walksR
  rw [F_coveredR_eq]
  exact Sh.F_cwQ_eq
noncomputable def B_simple_walksR : Sx :=
  (sSeq (sParN [oNameR 2, oNameR 3] (aCons (eFr (eCallR F_closed_walksR [none, none] (aCons (eVarR 0) (aCons (eVarR 1) aNil)))) (aCons (eLst aNil) aNil)))
  (sSeq (sFor (iRange2 (eC (.int 1)) (eOp2R gAddR (pV (eVarR 1)) (pV (eC (.int 1))))) (tNameR 4) (sAppR 3 (eOp2R gSubR (pV (eOp2R gItem (pV (eVarR 2)) (pV (eOp2R gSubR (pV (eVarR 4)) (pV (eC (.int 1))))))) (pV (eGenSR [5] (iRange2 (eC (.int 1)) (eVarR 4)) (tNameR 5) (bOp2R gEq (pV (eOp2R gModR (pV (eVarR 4)) (pV (eVarR 5)))) (pV (eC (.int 0)))) (eOp2R gItem (pSR 3) (pV (eOp2R gSubR (pV (eVarR 5)) (pV (eC (.int 1)))))))))))
  (sRet (eOp2R gItem (pSR 3) (pV (eOp1R gNegR (pV (eC (.int 1)))))))))
noncomputable def F_simple_walksR : Fn := runDefR 6 2 (fun i => [true, true].getD i false) B_simple_walksR
theorem F_simple_walksR_eq : F_simple_walksR = F_simple_walks := by
  unfold F_simple_walksR F_simple_walks B_simple_walksR B_simple_walks
  first | rfl | (simp only [resR_eq, eVarR_eq, eFrzR_eq, pSR_eq, eOp1R_eq, eOp2R_eq, bOp2R_eq, bTruR_eq, aOwnR_eq, putBackR_eq, clearER_eq, eCallR_eq, tNameR_eq, wipeER_eq, backER_eq, plainER_eq, compLoopR_eq, eCompR_eq, compLoop2R_eq, eComp2R_eq, sSetR_eq, sSetFR_eq, sPar2R_eq, sPar3R_eq, oNameR_eq, oSubR_eq, sSubR_eq, sAppR_eq, sRetSR_eq, finsR_eq, runDefR_eq, eCutR_eq, eGet2R_eq, sDPut'R_eq, sLockR_eq, iDictR_eq, sMoveR_eq, genLoopR_eq, eGenBR_eq, sumLoopR_eq, eGenSR_eq, ePopR_eq, eIdxR_eq, kVarR_eq, eItem2R_eq, sSub2R_eq, sAppGR_eq, iRngVR_eq, gAddR_eq, gSubR_eq, gMulR_eq, gDivR_eq, gModR_eq, gMin2R_eq, gMax2R_eq, gLenR_eq, gMinQR_eq, gMaxQR_eq, gSumR_eq, gNegR_eq, gIntR_eq, gSortedR_eq, F_closed_walksR_eq]; done) | (simp only [resR_eq, eVarR_eq, eFrzR_eq, pSR_eq, eOp1R_eq, eOp2R_eq, bOp2R_eq, bTruR_eq, aOwnR_eq, putBackR_eq, clearER_eq, eCallR_eq, tNameR_eq, wipeER_eq, backER_eq, plainER_eq, compLoopR_eq, eCompR_eq, compLoop2R_eq, eComp2R_eq, sSetR_eq, sSetFR_eq, sPar2R_eq, sPar3R_eq, oNameR_eq, oSubR_eq, sSubR_eq, sAppR_eq, sRetSR_eq, finsR_eq, runDefR_eq, eCutR_eq, eGet2R_eq, sDPut'R_eq, sLockR_eq, iDictR_eq, sMoveR_eq, genLoopR_eq, eGenBR_eq, sumLoopR_eq, eGenSR_eq, ePopR_eq, eIdxR_eq, kVarR_eq, eItem2R_eq, sSub2R_eq, sAppGR_eq, iRngVR_eq, gAddR_eq, gSubR_eq, gMulR_eq, gDivR_eq, gModR_eq, gMin2R_eq, gMax2R_eq, gLenR_eq, gMinQR_eq, gMaxQR_eq, gSumR_eq, gNegR_eq, gIntR_eq, gSortedR_eq, F_closed_walksR_eq]; rfl)
noncomputable def B_piece_besideR : Sx :=
  (sRet (eIf (bOp2R gEq (pV (eOp2R gItem (pV (eVarR 0)) (pV (eC (.int 1))))) (pV (eC (.int 1)))) (eOp2R gItem (pV (eVarR 0)) (pV (eC (.int 0)))) (eOp2R gSubR (pV (eOp2R gItem (pV (eVarR 0)) (pV (eC (.int 0))))) (pV (eC (.int 1))))))
noncomputable def F_piece_besideR : Fn := runDefR 1 1 (fun i => [true].getD i false) B_piece_besideR
theorem F_piece_besideR_eq : F_piece_besideR = F_piece_beside := by
  unfold F_piece_besideR F_piece_beside B_piece_besideR B_piece_beside
  first | rfl | (simp only [resR_eq, eVarR_eq, eFrzR_eq, pSR_eq, eOp1R_eq, eOp2R_eq, bOp2R_eq, bTruR_eq, aOwnR_eq, putBackR_eq, clearER_eq, eCallR_eq, tNameR_eq, wipeER_eq, backER_eq, plainER_eq, compLoopR_eq, eCompR_eq, compLoop2R_eq, eComp2R_eq, sSetR_eq, sSetFR_eq, sPar2R_eq, sPar3R_eq, oNameR_eq, oSubR_eq, sSubR_eq, sAppR_eq, sRetSR_eq, finsR_eq, runDefR_eq, eCutR_eq, eGet2R_eq, sDPut'R_eq, sLockR_eq, iDictR_eq, sMoveR_eq, genLoopR_eq, eGenBR_eq, sumLoopR_eq, eGenSR_eq, ePopR_eq, eIdxR_eq, kVarR_eq, eItem2R_eq, sSub2R_eq, sAppGR_eq, iRngVR_eq, gAddR_eq, gSubR_eq, gMulR_eq, gDivR_eq, gModR_eq, gMin2R_eq, gMax2R_eq, gLenR_eq, gMinQR_eq, gMaxQR_eq, gSumR_eq, gNegR_eq, gIntR_eq, gSortedR_eq]; done) | (simp only [resR_eq, eVarR_eq, eFrzR_eq, pSR_eq, eOp1R_eq, eOp2R_eq, bOp2R_eq, bTruR_eq, aOwnR_eq, putBackR_eq, clearER_eq, eCallR_eq, tNameR_eq, wipeER_eq, backER_eq, plainER_eq, compLoopR_eq, eCompR_eq, compLoop2R_eq, eComp2R_eq, sSetR_eq, sSetFR_eq, sPar2R_eq, sPar3R_eq, oNameR_eq, oSubR_eq, sSubR_eq, sAppR_eq, sRetSR_eq, finsR_eq, runDefR_eq, eCutR_eq, eGet2R_eq, sDPut'R_eq, sLockR_eq, iDictR_eq, sMoveR_eq, genLoopR_eq, eGenBR_eq, sumLoopR_eq, eGenSR_eq, ePopR_eq, eIdxR_eq, kVarR_eq, eItem2R_eq, sSub2R_eq, sAppGR_eq, iRngVR_eq, gAddR_eq, gSubR_eq, gMulR_eq, gDivR_eq, gModR_eq, gMin2R_eq, gMax2R_eq, gLenR_eq, gMinQR_eq, gMaxQR_eq, gSumR_eq, gNegR_eq, gIntR_eq, gSortedR_eq]; rfl)
noncomputable def B_step_besideR : Sx :=
  (sSeq (sTg (tTupl [(tNameR 2), (tNameR 3)]) (eVarR 1))
  (sSeq (sSetFR 4 (eIf (bOp2R gGt (pV (eOp2R gItem (pV (eVarR 0)) (pV (eOp2R gAddR (pV (eVarR 2)) (pV (eVarR 3)))))) (pV (eOp2R gItem (pV (eVarR 0)) (pV (eVarR 2))))) (eC (.int 1)) (eOp1R gNegR (pV (eC (.int 1))))))
  (sRet (eTup (aCons (eOp2R gItem (pV (eVarR 0)) (pV (eVarR 2))) (aCons (eVarR 4) aNil))))))
noncomputable def F_step_besideR : Fn := runDefR 5 2 (fun i => [true, true].getD i false) B_step_besideR
theorem F_step_besideR_eq : F_step_besideR = F_step_beside := by
  unfold F_step_besideR F_step_beside B_step_besideR B_step_beside
  first | rfl | (simp only [resR_eq, eVarR_eq, eFrzR_eq, pSR_eq, eOp1R_eq, eOp2R_eq, bOp2R_eq, bTruR_eq, aOwnR_eq, putBackR_eq, clearER_eq, eCallR_eq, tNameR_eq, wipeER_eq, backER_eq, plainER_eq, compLoopR_eq, eCompR_eq, compLoop2R_eq, eComp2R_eq, sSetR_eq, sSetFR_eq, sPar2R_eq, sPar3R_eq, oNameR_eq, oSubR_eq, sSubR_eq, sAppR_eq, sRetSR_eq, finsR_eq, runDefR_eq, eCutR_eq, eGet2R_eq, sDPut'R_eq, sLockR_eq, iDictR_eq, sMoveR_eq, genLoopR_eq, eGenBR_eq, sumLoopR_eq, eGenSR_eq, ePopR_eq, eIdxR_eq, kVarR_eq, eItem2R_eq, sSub2R_eq, sAppGR_eq, iRngVR_eq, gAddR_eq, gSubR_eq, gMulR_eq, gDivR_eq, gModR_eq, gMin2R_eq, gMax2R_eq, gLenR_eq, gMinQR_eq, gMaxQR_eq, gSumR_eq, gNegR_eq, gIntR_eq, gSortedR_eq]; done) | (simp only [resR_eq, eVarR_eq, eFrzR_eq, pSR_eq, eOp1R_eq, eOp2R_eq, bOp2R_eq, bTruR_eq, aOwnR_eq, putBackR_eq, clearER_eq, eCallR_eq, tNameR_eq, wipeER_eq, backER_eq, plainER_eq, compLoopR_eq, eCompR_eq, compLoop2R_eq, eComp2R_eq, sSetR_eq, sSetFR_eq, sPar2R_eq, sPar3R_eq, oNameR_eq, oSubR_eq, sSubR_eq, sAppR_eq, sRetSR_eq, finsR_eq, runDefR_eq, eCutR_eq, eGet2R_eq, sDPut'R_eq, sLockR_eq, iDictR_eq, sMoveR_eq, genLoopR_eq, eGenBR_eq, sumLoopR_eq, eGenSR_eq, ePopR_eq, eIdxR_eq, kVarR_eq, eItem2R_eq, sSub2R_eq, sAppGR_eq, iRngVR_eq, gAddR_eq, gSubR_eq, gMulR_eq, gDivR_eq, gModR_eq, gMin2R_eq, gMax2R_eq, gLenR_eq, gMinQR_eq, gMaxQR_eq, gSumR_eq, gNegR_eq, gIntR_eq, gSortedR_eq]; rfl)
noncomputable def B_walk_besideR : Sx :=
  (sSeq (sPar2R 2 3 (eVarR 1) (eLst aNil))
  (sSeq (sWhile FU (bOp2R gLe (pV (eOp1R gLenR (pSR 3))) (pV (eOp2R gMulR (pV (eC (.int 2))) (pV (eOp1R gLenR (pV (eVarR 0))))))) (sSeq (sAppR 3 (eCallR F_piece_besideR [none] (aCons (eVarR 2) aNil)))
  (sSeq (sSetFR 2 (eCallR F_step_besideR [none, none] (aCons (eVarR 0) (aCons (eVarR 2) aNil))))
  (sIf (bOp2R gEq (pV (eVarR 2)) (pV (eVarR 1))) (sRetSR 3) sNil))))
  (sRet (eC .none))))
noncomputable def F_walk_besideR : Fn := runDefR 4 2 (fun i => [true, true].getD i false) B_walk_besideR
theorem F_walk_besideR_eq : F_walk_besideR = F_walk_beside := by
  unfold F_walk_besideR F_walk_beside B_walk_besideR B_walk_beside
  first | rfl | (simp only [resR_eq, eVarR_eq, eFrzR_eq, pSR_eq, eOp1R_eq, eOp2R_eq, bOp2R_eq, bTruR_eq, aOwnR_eq, putBackR_eq, clearER_eq, eCallR_eq, tNameR_eq, wipeER_eq, backER_eq, plainER_eq, compLoopR_eq, eCompR_eq, compLoop2R_eq, eComp2R_eq, sSetR_eq, sSetFR_eq, sPar2R_eq, sPar3R_eq, oNameR_eq, oSubR_eq, sSubR_eq, sAppR_eq, sRetSR_eq, finsR_eq, runDefR_eq, eCutR_eq, eGet2R_eq, sDPut'R_eq, sLockR_eq, iDictR_eq, sMoveR_eq, genLoopR_eq, eGenBR_eq, sumLoopR_eq, eGenSR_eq, ePopR_eq, eIdxR_eq, kVarR_eq, eItem2R_eq, sSub2R_eq, sAppGR_eq, iRngVR_eq, gAddR_eq, gSubR_eq, gMulR_eq, gDivR_eq, gModR_eq, gMin2R_eq, gMax2R_eq, gLenR_eq, gMinQR_eq, gMaxQR_eq, gSumR_eq, gNegR_eq, gIntR_eq, gSortedR_eq, F_piece_besideR_eq, F_step_besideR_eq]; done) | (simp only [resR_eq, eVarR_eq, eFrzR_eq, pSR_eq, eOp1R_eq, eOp2R_eq, bOp2R_eq, bTruR_eq, aOwnR_eq, putBackR_eq, clearER_eq, eCallR_eq, tNameR_eq, wipeER_eq, backER_eq, plainER_eq, compLoopR_eq, eCompR_eq, compLoop2R_eq, eComp2R_eq, sSetR_eq, sSetFR_eq, sPar2R_eq, sPar3R_eq, oNameR_eq, oSubR_eq, sSubR_eq, sAppR_eq, sRetSR_eq, finsR_eq, runDefR_eq, eCutR_eq, eGet2R_eq, sDPut'R_eq, sLockR_eq, iDictR_eq, sMoveR_eq, genLoopR_eq, eGenBR_eq, sumLoopR_eq, eGenSR_eq, ePopR_eq, eIdxR_eq, kVarR_eq, eItem2R_eq, sSub2R_eq, sAppGR_eq, iRngVR_eq, gAddR_eq, gSubR_eq, gMulR_eq, gDivR_eq, gModR_eq, gMin2R_eq, gMax2R_eq, gLenR_eq, gMinQR_eq, gMaxQR_eq, gSumR_eq, gNegR_eq, gIntR_eq, gSortedR_eq, F_piece_besideR_eq, F_step_besideR_eq]; rfl)
noncomputable def B_repeatsR : Sx :=
  (sRet (eGenBR [1] (iRange2 (eC (.int 1)) (eOp1R gLenR (pV (eVarR 0)))) (tNameR 1) bYes (eAnd (eOp2R (gB gEq) (pV (eOp2R gModR (pV (eOp1R gLenR (pV (eVarR 0)))) (pV (eVarR 1)))) (pV (eC (.int 0)))) (eOp2R (gB gEq) (pV (eOp2R gRep (pV (eCutR (pV (eVarR 0)) hNo (hAt (eVarR 1)))) (pV (eOp2R gDivR (pV (eOp1R gLenR (pV (eVarR 0)))) (pV (eVarR 1)))))) (pV (eVarR 0)))) true))
noncomputable def F_repeatsR : Fn := runDefR 2 1 (fun i => [true].getD i false) B_repeatsR
theorem F_repeatsR_eq : F_repeatsR = F_repeats := by
  unfold F_repeatsR F_repeats B_repeatsR B_repeats
  first | rfl | (simp only [resR_eq, eVarR_eq, eFrzR_eq, pSR_eq, eOp1R_eq, eOp2R_eq, bOp2R_eq, bTruR_eq, aOwnR_eq, putBackR_eq, clearER_eq, eCallR_eq, tNameR_eq, wipeER_eq, backER_eq, plainER_eq, compLoopR_eq, eCompR_eq, compLoop2R_eq, eComp2R_eq, sSetR_eq, sSetFR_eq, sPar2R_eq, sPar3R_eq, oNameR_eq, oSubR_eq, sSubR_eq, sAppR_eq, sRetSR_eq, finsR_eq, runDefR_eq, eCutR_eq, eGet2R_eq, sDPut'R_eq, sLockR_eq, iDictR_eq, sMoveR_eq, genLoopR_eq, eGenBR_eq, sumLoopR_eq, eGenSR_eq, ePopR_eq, eIdxR_eq, kVarR_eq, eItem2R_eq, sSub2R_eq, sAppGR_eq, iRngVR_eq, gAddR_eq, gSubR_eq, gMulR_eq, gDivR_eq, gModR_eq, gMin2R_eq, gMax2R_eq, gLenR_eq, gMinQR_eq, gMaxQR_eq, gSumR_eq, gNegR_eq, gIntR_eq, gSortedR_eq]; done) | (simp only [resR_eq, eVarR_eq, eFrzR_eq, pSR_eq, eOp1R_eq, eOp2R_eq, bOp2R_eq, bTruR_eq, aOwnR_eq, putBackR_eq, clearER_eq, eCallR_eq, tNameR_eq, wipeER_eq, backER_eq, plainER_eq, compLoopR_eq, eCompR_eq, compLoop2R_eq, eComp2R_eq, sSetR_eq, sSetFR_eq, sPar2R_eq, sPar3R_eq, oNameR_eq, oSubR_eq, sSubR_eq, sAppR_eq, sRetSR_eq, finsR_eq, runDefR_eq, eCutR_eq, eGet2R_eq, sDPut'R_eq, sLockR_eq, iDictR_eq, sMoveR_eq, genLoopR_eq, eGenBR_eq, sumLoopR_eq, eGenSR_eq, ePopR_eq, eIdxR_eq, kVarR_eq, eItem2R_eq, sSub2R_eq, sAppGR_eq, iRngVR_eq, gAddR_eq, gSubR_eq, gMulR_eq, gDivR_eq, gModR_eq, gMin2R_eq, gMax2R_eq, gLenR_eq, gMinQR_eq, gMaxQR_eq, gSumR_eq, gNegR_eq, gIntR_eq, gSortedR_eq]; rfl)
noncomputable def F_beside_walksR : Fn := F_bwQ F_repeatsR
theorem F_beside_walksR_eq : F_beside_walksR = F_beside_walks := by
  unfold F_beside_walksR
  rw [F_repeatsR_eq]
  exact Sh.F_bwQ_eq
noncomputable def B_points_ofR : Sx :=
  (sSeq (sIf (bOp2R gEq (pV (eOp1R gLenR (pV (eVarR 0)))) (pV (eC (.int 1)))) (sRet (eC (.int 0))) sNil)
  (sRet (eOp2R gSubR (pV (eCallR F_simple_walksR [none, none] (aCons (eVarR 0) (aCons (eVarR 1) aNil)))) (pV (eCallR F_beside_walksR [none, none] (aCons (eVarR 0) (aCons (eVarR 1) aNil)))))))
noncomputable def F_points_ofR : Fn := runDefR 2 2 (fun i => [true, true].getD i false) B_points_ofR
theorem F_points_ofR_eq : F_points_ofR = F_points_of := by
  unfold F_points_ofR F_points_of B_points_ofR B_points_of
  first | rfl | (simp only [resR_eq, eVarR_eq, eFrzR_eq, pSR_eq, eOp1R_eq, eOp2R_eq, bOp2R_eq, bTruR_eq, aOwnR_eq, putBackR_eq, clearER_eq, eCallR_eq, tNameR_eq, wipeER_eq, backER_eq, plainER_eq, compLoopR_eq, eCompR_eq, compLoop2R_eq, eComp2R_eq, sSetR_eq, sSetFR_eq, sPar2R_eq, sPar3R_eq, oNameR_eq, oSubR_eq, sSubR_eq, sAppR_eq, sRetSR_eq, finsR_eq, runDefR_eq, eCutR_eq, eGet2R_eq, sDPut'R_eq, sLockR_eq, iDictR_eq, sMoveR_eq, genLoopR_eq, eGenBR_eq, sumLoopR_eq, eGenSR_eq, ePopR_eq, eIdxR_eq, kVarR_eq, eItem2R_eq, sSub2R_eq, sAppGR_eq, iRngVR_eq, gAddR_eq, gSubR_eq, gMulR_eq, gDivR_eq, gModR_eq, gMin2R_eq, gMax2R_eq, gLenR_eq, gMinQR_eq, gMaxQR_eq, gSumR_eq, gNegR_eq, gIntR_eq, gSortedR_eq, F_beside_walksR_eq, F_simple_walksR_eq]; done) | (simp only [resR_eq, eVarR_eq, eFrzR_eq, pSR_eq, eOp1R_eq, eOp2R_eq, bOp2R_eq, bTruR_eq, aOwnR_eq, putBackR_eq, clearER_eq, eCallR_eq, tNameR_eq, wipeER_eq, backER_eq, plainER_eq, compLoopR_eq, eCompR_eq, compLoop2R_eq, eComp2R_eq, sSetR_eq, sSetFR_eq, sPar2R_eq, sPar3R_eq, oNameR_eq, oSubR_eq, sSubR_eq, sAppR_eq, sRetSR_eq, finsR_eq, runDefR_eq, eCutR_eq, eGet2R_eq, sDPut'R_eq, sLockR_eq, iDictR_eq, sMoveR_eq, genLoopR_eq, eGenBR_eq, sumLoopR_eq, eGenSR_eq, ePopR_eq, eIdxR_eq, kVarR_eq, eItem2R_eq, sSub2R_eq, sAppGR_eq, iRngVR_eq, gAddR_eq, gSubR_eq, gMulR_eq, gDivR_eq, gModR_eq, gMin2R_eq, gMax2R_eq, gLenR_eq, gMinQR_eq, gMaxQR_eq, gSumR_eq, gNegR_eq, gIntR_eq, gSortedR_eq, F_beside_walksR_eq, F_simple_walksR_eq]; rfl)
noncomputable def B_count_cyclesR : Sx :=
  (sSeq (sExprX (xCall F_need_patternR [none] (aCons (eVarR 0) aNil)))
  (sSeq (sExprX (xCall F_need_numberR [none, none, none] (aCons (eVarR 1) (aCons (eC (.int 1)) (aCons (eC (.int 60)) aNil)))))
  (sSeq (sIf (bTruR (pV (eCallR F_has_bandR [none] (aCons (eVarR 0) aNil)))) (sRaise1 "TooMany" "most" (eC (.int 1))) sNil)
  (sRet (eOp2R gAddR (pV (eOp2R gDivR (pV (eCallR F_points_ofR [none, none] (aCons (eVarR 0) (aCons (eVarR 1) aNil)))) (pV (eVarR 1)))) (pV (eIf (bOp2R gEq (pV (eVarR 1)) (pV (eOp1R gLenR (pV (eVarR 0))))) (eC (.int 1)) (eC (.int 0)))))))))
noncomputable def F_count_cyclesR : FnX := runDefX 2 2 (fun i => [true, true].getD i false) B_count_cyclesR
theorem F_count_cyclesR_eq : F_count_cyclesR = F_count_cycles := by
  unfold F_count_cyclesR F_count_cycles B_count_cyclesR B_count_cycles
  first | rfl | (simp only [resR_eq, eVarR_eq, eFrzR_eq, pSR_eq, eOp1R_eq, eOp2R_eq, bOp2R_eq, bTruR_eq, aOwnR_eq, putBackR_eq, clearER_eq, eCallR_eq, tNameR_eq, wipeER_eq, backER_eq, plainER_eq, compLoopR_eq, eCompR_eq, compLoop2R_eq, eComp2R_eq, sSetR_eq, sSetFR_eq, sPar2R_eq, sPar3R_eq, oNameR_eq, oSubR_eq, sSubR_eq, sAppR_eq, sRetSR_eq, finsR_eq, runDefR_eq, eCutR_eq, eGet2R_eq, sDPut'R_eq, sLockR_eq, iDictR_eq, sMoveR_eq, genLoopR_eq, eGenBR_eq, sumLoopR_eq, eGenSR_eq, ePopR_eq, eIdxR_eq, kVarR_eq, eItem2R_eq, sSub2R_eq, sAppGR_eq, iRngVR_eq, gAddR_eq, gSubR_eq, gMulR_eq, gDivR_eq, gModR_eq, gMin2R_eq, gMax2R_eq, gLenR_eq, gMinQR_eq, gMaxQR_eq, gSumR_eq, gNegR_eq, gIntR_eq, gSortedR_eq, F_has_bandR_eq, F_need_numberR_eq, F_need_patternR_eq, F_points_ofR_eq]; done) | (simp only [resR_eq, eVarR_eq, eFrzR_eq, pSR_eq, eOp1R_eq, eOp2R_eq, bOp2R_eq, bTruR_eq, aOwnR_eq, putBackR_eq, clearER_eq, eCallR_eq, tNameR_eq, wipeER_eq, backER_eq, plainER_eq, compLoopR_eq, eCompR_eq, compLoop2R_eq, eComp2R_eq, sSetR_eq, sSetFR_eq, sPar2R_eq, sPar3R_eq, oNameR_eq, oSubR_eq, sSubR_eq, sAppR_eq, sRetSR_eq, finsR_eq, runDefR_eq, eCutR_eq, eGet2R_eq, sDPut'R_eq, sLockR_eq, iDictR_eq, sMoveR_eq, genLoopR_eq, eGenBR_eq, sumLoopR_eq, eGenSR_eq, ePopR_eq, eIdxR_eq, kVarR_eq, eItem2R_eq, sSub2R_eq, sAppGR_eq, iRngVR_eq, gAddR_eq, gSubR_eq, gMulR_eq, gDivR_eq, gModR_eq, gMin2R_eq, gMax2R_eq, gLenR_eq, gMinQR_eq, gMaxQR_eq, gSumR_eq, gNegR_eq, gIntR_eq, gSortedR_eq, F_has_bandR_eq, F_need_numberR_eq, F_need_patternR_eq, F_points_ofR_eq]; rfl)
def B_rest_law : Sx :=
  (sSeq (sSetF 2 (eTold true Cl_law_told (xCall F_count_cycles [none, none] (aCons (eVar 9) (aCons (eVar 10) aNil)))))
  (sSeq (sIf (bTru (pV (eCall F_law_has_band [none] (aCons (eVar 9) aNil)))) (sRet (eCall (F_law_alike 12) [none, none] (aCons (eVar 2) (aCons (eC (.str "many")) aNil)))) sNil)
  (sSeq (sSetF 3 (eIf (bOp2 gGt (pV (eOp1 gLen (pV (eVar 9)))) (pV (eC (.int 1)))) (eCall F_law_points [none, none] (aCons (eVar 9) (aCons (eVar 10) aNil))) (eLst aNil)))
  (sSeq (sSetF 4 (eLst aNil))
  (sSeq (sFor (iSeq (eVar 3)) (tTupl [(tName 5), (tName 6)]) (sIf (bAnd (bOp2 gEq (pV (eComp [12] (iRange (eOp1 gLen (pV (eVar 9)))) (tName 12) (bOp2 gEq (pV (eVar 5)) (pV (eOp2 gMul (pV (eVar 12)) (pV (eVar 6))))) (eVar 12))) (pV (eLst aNil))) (bOp2 gNotIn (pV (eTup (aCons (eVar 5) (aCons (eVar 6) aNil)))) (pV (eVar 4)))) (sSeq (sSetF 7 (eComp [11] (iSeq (eVar 4)) (tName 11) (bOp2 gEq (pV (eOp2 gMul (pV (eOp2 gItem (pV (eVar 11)) (pV (eC (.int 0))))) (pV (eVar 6)))) (pV (eOp2 gMul (pV (eVar 5)) (pV (eOp2 gItem (pV (eVar 11)) (pV (eC (.int 1)))))))) (eVar 11)))
  (sSetF 4 (eOp2 gAdd (pV (eVar 4)) (pV (eOp2 gRep (pV (eLst (aCons (eTup (aCons (eVar 5) (aCons (eVar 6) aNil))) aNil))) (pV (eOp1 gInt (pV (eOp2 (gB gEq) (pV (eVar 7)) (pV (eLst aNil))))))))))) sNil))
  (sSeq (sSetF 8 (eOp2 gAdd (pV (eOp2 gDiv (pV (eOp1 gLen (pV (eVar 4)))) (pV (eVar 10)))) (pV (eIf (bOp2 gEq (pV (eVar 10)) (pV (eOp1 gLen (pV (eVar 9))))) (eC (.int 1)) (eC (.int 0))))))
  (sRet (eAnd (eOp2 (gB gEq) (pV (eOp2 gMod (pV (eOp1 gInt (pV (eOp1 gLen (pV (eVar 4)))))) (pV (eVar 10)))) (pV (eC (.int 0)))) (eCall (F_law_alike 12) [none, none] (aCons (eVar 2) (aCons (eVar 8) aNil)))))))))))
noncomputable def B_rest_lawR : Sx :=
  (sSeq (sSetFR 2 (eTold true Cl_law_told (xCall F_count_cyclesR [none, none] (aCons (eVarR 9) (aCons (eVarR 10) aNil)))))
  (sSeq (sIf (bTruR (pV (eCallR F_law_has_bandR [none] (aCons (eVarR 9) aNil)))) (sRet (eCallR (F_law_alike 12) [none, none] (aCons (eVarR 2) (aCons (eC (.str "many")) aNil)))) sNil)
  (sSeq (sSetFR 3 (eIf (bOp2R gGt (pV (eOp1R gLenR (pV (eVarR 9)))) (pV (eC (.int 1)))) (eCallR F_law_pointsR [none, none] (aCons (eVarR 9) (aCons (eVarR 10) aNil))) (eLst aNil)))
  (sSeq (sSetFR 4 (eLst aNil))
  (sSeq (sFor (iSeq (eVarR 3)) (tTupl [(tNameR 5), (tNameR 6)]) (sIf (bAnd (bOp2R gEq (pV (eCompR [12] (iRange (eOp1R gLenR (pV (eVarR 9)))) (tNameR 12) (bOp2R gEq (pV (eVarR 5)) (pV (eOp2R gMulR (pV (eVarR 12)) (pV (eVarR 6))))) (eVarR 12))) (pV (eLst aNil))) (bOp2R gNotIn (pV (eTup (aCons (eVarR 5) (aCons (eVarR 6) aNil)))) (pV (eVarR 4)))) (sSeq (sSetFR 7 (eCompR [11] (iSeq (eVarR 4)) (tNameR 11) (bOp2R gEq (pV (eOp2R gMulR (pV (eOp2R gItem (pV (eVarR 11)) (pV (eC (.int 0))))) (pV (eVarR 6)))) (pV (eOp2R gMulR (pV (eVarR 5)) (pV (eOp2R gItem (pV (eVarR 11)) (pV (eC (.int 1)))))))) (eVarR 11)))
  (sSetFR 4 (eOp2R gAddR (pV (eVarR 4)) (pV (eOp2R gRep (pV (eLst (aCons (eTup (aCons (eVarR 5) (aCons (eVarR 6) aNil))) aNil))) (pV (eOp1R gIntR (pV (eOp2R (gB gEq) (pV (eVarR 7)) (pV (eLst aNil))))))))))) sNil))
  (sSeq (sSetFR 8 (eOp2R gAddR (pV (eOp2R gDivR (pV (eOp1R gLenR (pV (eVarR 4)))) (pV (eVarR 10)))) (pV (eIf (bOp2R gEq (pV (eVarR 10)) (pV (eOp1R gLenR (pV (eVarR 9))))) (eC (.int 1)) (eC (.int 0))))))
  (sRet (eAnd (eOp2R (gB gEq) (pV (eOp2R gModR (pV (eOp1R gIntR (pV (eOp1R gLenR (pV (eVarR 4)))))) (pV (eVarR 10)))) (pV (eC (.int 0)))) (eCallR (F_law_alike 12) [none, none] (aCons (eVarR 2) (aCons (eVarR 8) aNil)))))))))))
theorem B_rest_lawR_eq : B_rest_lawR = B_rest_law := by
  unfold B_rest_lawR B_rest_law
  first | rfl | (simp only [resR_eq, eVarR_eq, eFrzR_eq, pSR_eq, eOp1R_eq, eOp2R_eq, bOp2R_eq, bTruR_eq, aOwnR_eq, putBackR_eq, clearER_eq, eCallR_eq, tNameR_eq, wipeER_eq, backER_eq, plainER_eq, compLoopR_eq, eCompR_eq, compLoop2R_eq, eComp2R_eq, sSetR_eq, sSetFR_eq, sPar2R_eq, sPar3R_eq, oNameR_eq, oSubR_eq, sSubR_eq, sAppR_eq, sRetSR_eq, finsR_eq, runDefR_eq, eCutR_eq, eGet2R_eq, sDPut'R_eq, sLockR_eq, iDictR_eq, sMoveR_eq, genLoopR_eq, eGenBR_eq, sumLoopR_eq, eGenSR_eq, ePopR_eq, eIdxR_eq, kVarR_eq, eItem2R_eq, sSub2R_eq, sAppGR_eq, iRngVR_eq, gAddR_eq, gSubR_eq, gMulR_eq, gDivR_eq, gModR_eq, gMin2R_eq, gMax2R_eq, gLenR_eq, gMinQR_eq, gMaxQR_eq, gSumR_eq, gNegR_eq, gIntR_eq, gSortedR_eq, F_count_cyclesR_eq, F_law_has_bandR_eq, F_law_pointsR_eq]; done) | (simp only [resR_eq, eVarR_eq, eFrzR_eq, pSR_eq, eOp1R_eq, eOp2R_eq, bOp2R_eq, bTruR_eq, aOwnR_eq, putBackR_eq, clearER_eq, eCallR_eq, tNameR_eq, wipeER_eq, backER_eq, plainER_eq, compLoopR_eq, eCompR_eq, compLoop2R_eq, eComp2R_eq, sSetR_eq, sSetFR_eq, sPar2R_eq, sPar3R_eq, oNameR_eq, oSubR_eq, sSubR_eq, sAppR_eq, sRetSR_eq, finsR_eq, runDefR_eq, eCutR_eq, eGet2R_eq, sDPut'R_eq, sLockR_eq, iDictR_eq, sMoveR_eq, genLoopR_eq, eGenBR_eq, sumLoopR_eq, eGenSR_eq, ePopR_eq, eIdxR_eq, kVarR_eq, eItem2R_eq, sSub2R_eq, sAppGR_eq, iRngVR_eq, gAddR_eq, gSubR_eq, gMulR_eq, gDivR_eq, gModR_eq, gMin2R_eq, gMax2R_eq, gLenR_eq, gMinQR_eq, gMaxQR_eq, gSumR_eq, gNegR_eq, gIntR_eq, gSortedR_eq, F_count_cyclesR_eq, F_law_has_bandR_eq, F_law_pointsR_eq]; rfl)
end Sh.K65

/-! law k65: printed by mk65.py -/
namespace Sh.K65
open PySem Sh
abbrev tp (p : List Int) : O := .d (.tuple (zs p))
def okR (p : List Int) (k : Int) : Prop := ∀ x0 x1 : Option O, dropE (B_rest_lawR [x0, x1, none, none, none, none, none, none, none, some (tp p), some (.d (.int k)), none, none]) = some (.d (.bool true))
end Sh.K65

/-! law k65: printed by mk65.py -/
namespace Sh.K65
open PySem Sh
theorem g0_1 : okR [0] 1 := fun _ _ => by kernel_rfl
theorem g1_3 : okR [1, 0] 3 := fun _ _ => by kernel_rfl
theorem g3_3 : okR [2, 0, 1] 3 := fun _ _ => by kernel_rfl
theorem g7_5 : okR [2, 0, 3, 1] 5 := fun _ _ => by kernel_rfl
theorem g8_3 : okR [3, 2, 0, 1] 3 := fun _ _ => by kernel_rfl
theorem g8_5 : okR [3, 2, 0, 1] 5 := fun _ _ => by kernel_rfl
theorem g9_1 : okR [3, 0, 1, 2] 1 := fun _ _ => by kernel_rfl
theorem g9_4 : okR [3, 0, 1, 2] 4 := fun _ _ => by kernel_rfl
theorem g9_5 : okR [3, 0, 1, 2] 5 := fun _ _ => by kernel_rfl
theorem g11_2 : okR [1, 2, 4, 0, 3] 2 := fun _ _ => by kernel_rfl
theorem g15_1 : okR [1, 4, 0, 2, 3] 1 := fun _ _ => by kernel_rfl
theorem g15_3 : okR [1, 4, 0, 2, 3] 3 := fun _ _ => by kernel_rfl
theorem g15_4 : okR [1, 4, 0, 2, 3] 4 := fun _ _ => by kernel_rfl
theorem g17_3 : okR [2, 4, 1, 0, 3] 3 := fun _ _ => by kernel_rfl
theorem g17_4 : okR [2, 4, 1, 0, 3] 4 := fun _ _ => by kernel_rfl
theorem g20_4 : okR [2, 3, 4, 0, 1] 4 := fun _ _ => by kernel_rfl
theorem g21_3 : okR [2, 0, 4, 1, 3] 3 := fun _ _ => by kernel_rfl
theorem g21_5 : okR [2, 0, 4, 1, 3] 5 := fun _ _ => by kernel_rfl
theorem g22_1 : okR [3, 2, 4, 1, 0] 1 := fun _ _ => by kernel_rfl
theorem g24_2 : okR [3, 4, 1, 2, 0] 2 := fun _ _ => by kernel_rfl
theorem g27_2 : okR [3, 0, 1, 4, 2] 2 := fun _ _ => by kernel_rfl
theorem g27_4 : okR [3, 0, 1, 4, 2] 4 := fun _ _ => by kernel_rfl
theorem g30_1 : okR [4, 3, 1, 0, 2] 1 := fun _ _ => by kernel_rfl
theorem g30_3 : okR [4, 3, 1, 0, 2] 3 := fun _ _ => by kernel_rfl
theorem g31_2 : okR [4, 0, 3, 1, 2] 2 := fun _ _ => by kernel_rfl
theorem g33_1 : okR [4, 0, 1, 2, 3] 1 := fun _ _ => by kernel_rfl
theorem g33_2 : okR [4, 0, 1, 2, 3] 2 := fun _ _ => by kernel_rfl
theorem g33_3 : okR [4, 0, 1, 2, 3] 3 := fun _ _ => by kernel_rfl
end Sh.K65

/-! law k65: printed by mk65.py -/
namespace Sh.K65
open PySem Sh
theorem g0_4 : okR [0] 4 := fun _ _ => by kernel_rfl
theorem g2_3 : okR [1, 2, 0] 3 := fun _ _ => by kernel_rfl
theorem g4_1 : okR [1, 2, 3, 0] 1 := fun _ _ => by kernel_rfl
theorem g4_4 : okR [1, 2, 3, 0] 4 := fun _ _ => by kernel_rfl
theorem g4_5 : okR [1, 2, 3, 0] 5 := fun _ _ => by kernel_rfl
theorem g5_5 : okR [1, 3, 0, 2] 5 := fun _ _ => by kernel_rfl
theorem g6_3 : okR [2, 3, 1, 0] 3 := fun _ _ => by kernel_rfl
theorem g6_5 : okR [2, 3, 1, 0] 5 := fun _ _ => by kernel_rfl
theorem g10_3 : okR [1, 2, 3, 4, 0] 3 := fun _ _ => by kernel_rfl
theorem g10_4 : okR [1, 2, 3, 4, 0] 4 := fun _ _ => by kernel_rfl
theorem g11_1 : okR [1, 2, 4, 0, 3] 1 := fun _ _ => by kernel_rfl
theorem g11_3 : okR [1, 2, 4, 0, 3] 3 := fun _ _ => by kernel_rfl
theorem g11_4 : okR [1, 2, 4, 0, 3] 4 := fun _ _ => by kernel_rfl
theorem g13_3 : okR [1, 3, 0, 4, 2] 3 := fun _ _ => by kernel_rfl
theorem g13_5 : okR [1, 3, 0, 4, 2] 5 := fun _ _ => by kernel_rfl
theorem g14_3 : okR [1, 4, 3, 0, 2] 3 := fun _ _ => by kernel_rfl
theorem g14_4 : okR [1, 4, 3, 0, 2] 4 := fun _ _ => by kernel_rfl
theorem g16_2 : okR [2, 3, 1, 4, 0] 2 := fun _ _ => by kernel_rfl
theorem g18_1 : okR [2, 4, 3, 1, 0] 1 := fun _ _ => by kernel_rfl
theorem g18_3 : okR [2, 4, 3, 1, 0] 3 := fun _ _ => by kernel_rfl
theorem g19_2 : okR [2, 0, 3, 4, 1] 2 := fun _ _ => by kernel_rfl
theorem g19_4 : okR [2, 0, 3, 4, 1] 4 := fun _ _ => by kernel_rfl
theorem g20_1 : okR [2, 3, 4, 0, 1] 1 := fun _ _ => by kernel_rfl
theorem g23_2 : okR [3, 4, 0, 1, 2] 2 := fun _ _ => by kernel_rfl
theorem g26_2 : okR [3, 2, 0, 4, 1] 2 := fun _ _ => by kernel_rfl
theorem g28_2 : okR [4, 2, 3, 0, 1] 2 := fun _ _ => by kernel_rfl
theorem g32_1 : okR [4, 2, 0, 1, 3] 1 := fun _ _ => by kernel_rfl
end Sh.K65

/-! law k65: printed by mk65.py -/
namespace Sh.K65
open PySem Sh
theorem g0_3 : okR [0] 3 := fun _ _ => by kernel_rfl
theorem g1_2 : okR [1, 0] 2 := fun _ _ => by kernel_rfl
theorem g1_5 : okR [1, 0] 5 := fun _ _ => by kernel_rfl
theorem g7_3 : okR [2, 0, 3, 1] 3 := fun _ _ => by kernel_rfl
theorem g7_4 : okR [2, 0, 3, 1] 4 := fun _ _ => by kernel_rfl
theorem g8_2 : okR [3, 2, 0, 1] 2 := fun _ _ => by kernel_rfl
theorem g9_2 : okR [3, 0, 1, 2] 2 := fun _ _ => by kernel_rfl
theorem g9_3 : okR [3, 0, 1, 2] 3 := fun _ _ => by kernel_rfl
theorem g12_1 : okR [1, 3, 4, 2, 0] 1 := fun _ _ => by kernel_rfl
theorem g17_2 : okR [2, 4, 1, 0, 3] 2 := fun _ _ => by kernel_rfl
theorem g17_5 : okR [2, 4, 1, 0, 3] 5 := fun _ _ => by kernel_rfl
theorem g20_2 : okR [2, 3, 4, 0, 1] 2 := fun _ _ => by kernel_rfl
theorem g20_3 : okR [2, 3, 4, 0, 1] 3 := fun _ _ => by kernel_rfl
theorem g20_5 : okR [2, 3, 4, 0, 1] 5 := fun _ _ => by kernel_rfl
theorem g21_4 : okR [2, 0, 4, 1, 3] 4 := fun _ _ => by kernel_rfl
theorem g26_1 : okR [3, 2, 0, 4, 1] 1 := fun _ _ => by kernel_rfl
theorem g26_3 : okR [3, 2, 0, 4, 1] 3 := fun _ _ => by kernel_rfl
theorem g27_1 : okR [3, 0, 1, 4, 2] 1 := fun _ _ => by kernel_rfl
theorem g27_5 : okR [3, 0, 1, 4, 2] 5 := fun _ _ => by kernel_rfl
theorem g28_3 : okR [4, 2, 3, 0, 1] 3 := fun _ _ => by kernel_rfl
theorem g29_1 : okR [4, 3, 0, 2, 1] 1 := fun _ _ => by kernel_rfl
theorem g29_2 : okR [4, 3, 0, 2, 1] 2 := fun _ _ => by kernel_rfl
theorem g29_4 : okR [4, 3, 0, 2, 1] 4 := fun _ _ => by kernel_rfl
theorem g29_5 : okR [4, 3, 0, 2, 1] 5 := fun _ _ => by kernel_rfl
theorem g30_4 : okR [4, 3, 1, 0, 2] 4 := fun _ _ => by kernel_rfl
theorem g30_5 : okR [4, 3, 1, 0, 2] 5 := fun _ _ => by kernel_rfl
theorem g31_1 : okR [4, 0, 3, 1, 2] 1 := fun _ _ => by kernel_rfl
theorem g31_5 : okR [4, 0, 3, 1, 2] 5 := fun _ _ => by kernel_rfl
theorem g33_4 : okR [4, 0, 1, 2, 3] 4 := fun _ _ => by kernel_rfl
end Sh.K65

/-! law k65: printed by mk65.py -/
namespace Sh.K65
open PySem Sh
theorem g0_5 : okR [0] 5 := fun _ _ => by kernel_rfl
theorem g4_3 : okR [1, 2, 3, 0] 3 := fun _ _ => by kernel_rfl
theorem g5_3 : okR [1, 3, 0, 2] 3 := fun _ _ => by kernel_rfl
theorem g5_4 : okR [1, 3, 0, 2] 4 := fun _ _ => by kernel_rfl
theorem g6_2 : okR [2, 3, 1, 0] 2 := fun _ _ => by kernel_rfl
theorem g8_1 : okR [3, 2, 0, 1] 1 := fun _ _ => by kernel_rfl
theorem g8_4 : okR [3, 2, 0, 1] 4 := fun _ _ => by kernel_rfl
theorem g10_1 : okR [1, 2, 3, 4, 0] 1 := fun _ _ => by kernel_rfl
theorem g10_2 : okR [1, 2, 3, 4, 0] 2 := fun _ _ => by kernel_rfl
theorem g10_5 : okR [1, 2, 3, 4, 0] 5 := fun _ _ => by kernel_rfl
theorem g13_4 : okR [1, 3, 0, 4, 2] 4 := fun _ _ => by kernel_rfl
theorem g14_2 : okR [1, 4, 3, 0, 2] 2 := fun _ _ => by kernel_rfl
theorem g14_5 : okR [1, 4, 3, 0, 2] 5 := fun _ _ => by kernel_rfl
theorem g15_2 : okR [1, 4, 0, 2, 3] 2 := fun _ _ => by kernel_rfl
theorem g16_5 : okR [2, 3, 1, 4, 0] 5 := fun _ _ => by kernel_rfl
theorem g18_4 : okR [2, 4, 3, 1, 0] 4 := fun _ _ => by kernel_rfl
theorem g18_5 : okR [2, 4, 3, 1, 0] 5 := fun _ _ => by kernel_rfl
theorem g19_1 : okR [2, 0, 3, 4, 1] 1 := fun _ _ => by kernel_rfl
theorem g19_5 : okR [2, 0, 3, 4, 1] 5 := fun _ _ => by kernel_rfl
theorem g22_2 : okR [3, 2, 4, 1, 0] 2 := fun _ _ => by kernel_rfl
theorem g22_4 : okR [3, 2, 4, 1, 0] 4 := fun _ _ => by kernel_rfl
theorem g22_5 : okR [3, 2, 4, 1, 0] 5 := fun _ _ => by kernel_rfl
theorem g23_4 : okR [3, 4, 0, 1, 2] 4 := fun _ _ => by kernel_rfl
theorem g24_3 : okR [3, 4, 1, 2, 0] 3 := fun _ _ => by kernel_rfl
theorem g25_1 : okR [3, 0, 4, 2, 1] 1 := fun _ _ => by kernel_rfl
theorem g25_3 : okR [3, 0, 4, 2, 1] 3 := fun _ _ => by kernel_rfl
theorem g28_1 : okR [4, 2, 3, 0, 1] 1 := fun _ _ => by kernel_rfl
theorem g30_2 : okR [4, 3, 1, 0, 2] 2 := fun _ _ => by kernel_rfl
end Sh.K65

/-! law k65: printed by mk65.py -/
namespace Sh.K65
open PySem Sh
theorem g1_1 : okR [1, 0] 1 := fun _ _ => by kernel_rfl
theorem g3_1 : okR [2, 0, 1] 1 := fun _ _ => by kernel_rfl
theorem g3_2 : okR [2, 0, 1] 2 := fun _ _ => by kernel_rfl
theorem g3_4 : okR [2, 0, 1] 4 := fun _ _ => by kernel_rfl
theorem g3_5 : okR [2, 0, 1] 5 := fun _ _ => by kernel_rfl
theorem g6_1 : okR [2, 3, 1, 0] 1 := fun _ _ => by kernel_rfl
theorem g6_4 : okR [2, 3, 1, 0] 4 := fun _ _ => by kernel_rfl
theorem g7_1 : okR [2, 0, 3, 1] 1 := fun _ _ => by kernel_rfl
theorem g7_2 : okR [2, 0, 3, 1] 2 := fun _ _ => by kernel_rfl
theorem g15_5 : okR [1, 4, 0, 2, 3] 5 := fun _ _ => by kernel_rfl
theorem g17_1 : okR [2, 4, 1, 0, 3] 1 := fun _ _ => by kernel_rfl
theorem g18_2 : okR [2, 4, 3, 1, 0] 2 := fun _ _ => by kernel_rfl
theorem g21_1 : okR [2, 0, 4, 1, 3] 1 := fun _ _ => by kernel_rfl
theorem g21_2 : okR [2, 0, 4, 1, 3] 2 := fun _ _ => by kernel_rfl
theorem g24_1 : okR [3, 4, 1, 2, 0] 1 := fun _ _ => by kernel_rfl
theorem g25_2 : okR [3, 0, 4, 2, 1] 2 := fun _ _ => by kernel_rfl
theorem g26_4 : okR [3, 2, 0, 4, 1] 4 := fun _ _ => by kernel_rfl
theorem g26_5 : okR [3, 2, 0, 4, 1] 5 := fun _ _ => by kernel_rfl
theorem g27_3 : okR [3, 0, 1, 4, 2] 3 := fun _ _ => by kernel_rfl
theorem g28_4 : okR [4, 2, 3, 0, 1] 4 := fun _ _ => by kernel_rfl
theorem g28_5 : okR [4, 2, 3, 0, 1] 5 := fun _ _ => by kernel_rfl
theorem g29_3 : okR [4, 3, 0, 2, 1] 3 := fun _ _ => by kernel_rfl
theorem g31_3 : okR [4, 0, 3, 1, 2] 3 := fun _ _ => by kernel_rfl
theorem g31_4 : okR [4, 0, 3, 1, 2] 4 := fun _ _ => by kernel_rfl
theorem g32_2 : okR [4, 2, 0, 1, 3] 2 := fun _ _ => by kernel_rfl
theorem g32_3 : okR [4, 2, 0, 1, 3] 3 := fun _ _ => by kernel_rfl
theorem g32_4 : okR [4, 2, 0, 1, 3] 4 := fun _ _ => by kernel_rfl
theorem g32_5 : okR [4, 2, 0, 1, 3] 5 := fun _ _ => by kernel_rfl
theorem g33_5 : okR [4, 0, 1, 2, 3] 5 := fun _ _ => by kernel_rfl
end Sh.K65

/-! law k65: printed by mk65.py -/
namespace Sh.K65
open PySem Sh
theorem g0_2 : okR [0] 2 := fun _ _ => by kernel_rfl
theorem g1_4 : okR [1, 0] 4 := fun _ _ => by kernel_rfl
theorem g2_1 : okR [1, 2, 0] 1 := fun _ _ => by kernel_rfl
theorem g2_2 : okR [1, 2, 0] 2 := fun _ _ => by kernel_rfl
theorem g2_4 : okR [1, 2, 0] 4 := fun _ _ => by kernel_rfl
theorem g2_5 : okR [1, 2, 0] 5 := fun _ _ => by kernel_rfl
theorem g4_2 : okR [1, 2, 3, 0] 2 := fun _ _ => by kernel_rfl
theorem g5_1 : okR [1, 3, 0, 2] 1 := fun _ _ => by kernel_rfl
theorem g5_2 : okR [1, 3, 0, 2] 2 := fun _ _ => by kernel_rfl
theorem g11_5 : okR [1, 2, 4, 0, 3] 5 := fun _ _ => by kernel_rfl
theorem g12_2 : okR [1, 3, 4, 2, 0] 2 := fun _ _ => by kernel_rfl
theorem g12_3 : okR [1, 3, 4, 2, 0] 3 := fun _ _ => by kernel_rfl
theorem g12_4 : okR [1, 3, 4, 2, 0] 4 := fun _ _ => by kernel_rfl
theorem g12_5 : okR [1, 3, 4, 2, 0] 5 := fun _ _ => by kernel_rfl
theorem g13_1 : okR [1, 3, 0, 4, 2] 1 := fun _ _ => by kernel_rfl
theorem g13_2 : okR [1, 3, 0, 4, 2] 2 := fun _ _ => by kernel_rfl
theorem g14_1 : okR [1, 4, 3, 0, 2] 1 := fun _ _ => by kernel_rfl
theorem g16_1 : okR [2, 3, 1, 4, 0] 1 := fun _ _ => by kernel_rfl
theorem g16_3 : okR [2, 3, 1, 4, 0] 3 := fun _ _ => by kernel_rfl
theorem g16_4 : okR [2, 3, 1, 4, 0] 4 := fun _ _ => by kernel_rfl
theorem g19_3 : okR [2, 0, 3, 4, 1] 3 := fun _ _ => by kernel_rfl
theorem g22_3 : okR [3, 2, 4, 1, 0] 3 := fun _ _ => by kernel_rfl
theorem g23_1 : okR [3, 4, 0, 1, 2] 1 := fun _ _ => by kernel_rfl
theorem g23_3 : okR [3, 4, 0, 1, 2] 3 := fun _ _ => by kernel_rfl
theorem g23_5 : okR [3, 4, 0, 1, 2] 5 := fun _ _ => by kernel_rfl
theorem g24_4 : okR [3, 4, 1, 2, 0] 4 := fun _ _ => by kernel_rfl
theorem g24_5 : okR [3, 4, 1, 2, 0] 5 := fun _ _ => by kernel_rfl
theorem g25_4 : okR [3, 0, 4, 2, 1] 4 := fun _ _ => by kernel_rfl
theorem g25_5 : okR [3, 0, 4, 2, 1] 5 := fun _ _ => by kernel_rfl
end Sh.K65

/-! law k65: printed by mk65.py -/
namespace Sh.K65
open PySem Sh
def all5 : List (List Int) := [[0], [1, 0], [1, 2, 0], [2, 0, 1], [1, 2, 3, 0], [1, 3, 0, 2], [2, 3, 1, 0], [2, 0, 3, 1], [3, 2, 0, 1], [3, 0, 1, 2], [1, 2, 3, 4, 0], [1, 2, 4, 0, 3], [1, 3, 4, 2, 0], [1, 3, 0, 4, 2], [1, 4, 3, 0, 2], [1, 4, 0, 2, 3], [2, 3, 1, 4, 0], [2, 4, 1, 0, 3], [2, 4, 3, 1, 0], [2, 0, 3, 4, 1], [2, 3, 4, 0, 1], [2, 0, 4, 1, 3], [3, 2, 4, 1, 0], [3, 4, 0, 1, 2], [3, 4, 1, 2, 0], [3, 0, 4, 2, 1], [3, 2, 0, 4, 1], [3, 0, 1, 4, 2], [4, 2, 3, 0, 1], [4, 3, 0, 2, 1], [4, 3, 1, 0, 2], [4, 0, 3, 1, 2], [4, 2, 0, 1, 3], [4, 0, 1, 2, 3]]
theorem pats_eq : patsN 1 5 = all5 := by decide +kernel
theorem all_ok {p : List Int} (h : p ∈ all5) {k : Int} (h1 : 1 ≤ k) (h2 : k ≤ 5) : okR p k := by
  have hk : k = 1 ∨ k = 2 ∨ k = 3 ∨ k = 4 ∨ k = 5 := by omega
  simp only [all5, List.mem_cons, List.not_mem_nil, or_false] at h
  rcases h with rfl | rfl | rfl | rfl | rfl | rfl | rfl | rfl | rfl | rfl | rfl | rfl | rfl | rfl | rfl | rfl | rfl | rfl | rfl | rfl | rfl | rfl | rfl | rfl | rfl | rfl | rfl | rfl | rfl | rfl | rfl | rfl | rfl | rfl
  · rcases hk with rfl | rfl | rfl | rfl | rfl
    · exact g0_1
    · exact g0_2
    · exact g0_3
    · exact g0_4
    · exact g0_5
  · rcases hk with rfl | rfl | rfl | rfl | rfl
    · exact g1_1
    · exact g1_2
    · exact g1_3
    · exact g1_4
    · exact g1_5
  · rcases hk with rfl | rfl | rfl | rfl | rfl
    · exact g2_1
    · exact g2_2
    · exact g2_3
    · exact g2_4
    · exact g2_5
  · rcases hk with rfl | rfl | rfl | rfl | rfl
    · exact g3_1
    · exact g3_2
    · exact g3_3
    · exact g3_4
    · exact g3_5
  · rcases hk with rfl | rfl | rfl | rfl | rfl
    · exact g4_1
    · exact g4_2
    · exact g4_3
    · exact g4_4
    · exact g4_5
  · rcases hk with rfl | rfl | rfl | rfl | rfl
    · exact g5_1
    · exact g5_2
    · exact g5_3
    · exact g5_4
    · exact g5_5
  · rcases hk with rfl | rfl | rfl | rfl | rfl
    · exact g6_1
    · exact g6_2
    · exact g6_3
    · exact g6_4
    · exact g6_5
  · rcases hk with rfl | rfl | rfl | rfl | rfl
    · exact g7_1
    · exact g7_2
    · exact g7_3
    · exact g7_4
    · exact g7_5
  · rcases hk with rfl | rfl | rfl | rfl | rfl
    · exact g8_1
    · exact g8_2
    · exact g8_3
    · exact g8_4
    · exact g8_5
  · rcases hk with rfl | rfl | rfl | rfl | rfl
    · exact g9_1
    · exact g9_2
    · exact g9_3
    · exact g9_4
    · exact g9_5
  · rcases hk with rfl | rfl | rfl | rfl | rfl
    · exact g10_1
    · exact g10_2
    · exact g10_3
    · exact g10_4
    · exact g10_5
  · rcases hk with rfl | rfl | rfl | rfl | rfl
    · exact g11_1
    · exact g11_2
    · exact g11_3
    · exact g11_4
    · exact g11_5
  · rcases hk with rfl | rfl | rfl | rfl | rfl
    · exact g12_1
    · exact g12_2
    · exact g12_3
    · exact g12_4
    · exact g12_5
  · rcases hk with rfl | rfl | rfl | rfl | rfl
    · exact g13_1
    · exact g13_2
    · exact g13_3
    · exact g13_4
    · exact g13_5
  · rcases hk with rfl | rfl | rfl | rfl | rfl
    · exact g14_1
    · exact g14_2
    · exact g14_3
    · exact g14_4
    · exact g14_5
  · rcases hk with rfl | rfl | rfl | rfl | rfl
    · exact g15_1
    · exact g15_2
    · exact g15_3
    · exact g15_4
    · exact g15_5
  · rcases hk with rfl | rfl | rfl | rfl | rfl
    · exact g16_1
    · exact g16_2
    · exact g16_3
    · exact g16_4
    · exact g16_5
  · rcases hk with rfl | rfl | rfl | rfl | rfl
    · exact g17_1
    · exact g17_2
    · exact g17_3
    · exact g17_4
    · exact g17_5
  · rcases hk with rfl | rfl | rfl | rfl | rfl
    · exact g18_1
    · exact g18_2
    · exact g18_3
    · exact g18_4
    · exact g18_5
  · rcases hk with rfl | rfl | rfl | rfl | rfl
    · exact g19_1
    · exact g19_2
    · exact g19_3
    · exact g19_4
    · exact g19_5
  · rcases hk with rfl | rfl | rfl | rfl | rfl
    · exact g20_1
    · exact g20_2
    · exact g20_3
    · exact g20_4
    · exact g20_5
  · rcases hk with rfl | rfl | rfl | rfl | rfl
    · exact g21_1
    · exact g21_2
    · exact g21_3
    · exact g21_4
    · exact g21_5
  · rcases hk with rfl | rfl | rfl | rfl | rfl
    · exact g22_1
    · exact g22_2
    · exact g22_3
    · exact g22_4
    · exact g22_5
  · rcases hk with rfl | rfl | rfl | rfl | rfl
    · exact g23_1
    · exact g23_2
    · exact g23_3
    · exact g23_4
    · exact g23_5
  · rcases hk with rfl | rfl | rfl | rfl | rfl
    · exact g24_1
    · exact g24_2
    · exact g24_3
    · exact g24_4
    · exact g24_5
  · rcases hk with rfl | rfl | rfl | rfl | rfl
    · exact g25_1
    · exact g25_2
    · exact g25_3
    · exact g25_4
    · exact g25_5
  · rcases hk with rfl | rfl | rfl | rfl | rfl
    · exact g26_1
    · exact g26_2
    · exact g26_3
    · exact g26_4
    · exact g26_5
  · rcases hk with rfl | rfl | rfl | rfl | rfl
    · exact g27_1
    · exact g27_2
    · exact g27_3
    · exact g27_4
    · exact g27_5
  · rcases hk with rfl | rfl | rfl | rfl | rfl
    · exact g28_1
    · exact g28_2
    · exact g28_3
    · exact g28_4
    · exact g28_5
  · rcases hk with rfl | rfl | rfl | rfl | rfl
    · exact g29_1
    · exact g29_2
    · exact g29_3
    · exact g29_4
    · exact g29_5
  · rcases hk with rfl | rfl | rfl | rfl | rfl
    · exact g30_1
    · exact g30_2
    · exact g30_3
    · exact g30_4
    · exact g30_5
  · rcases hk with rfl | rfl | rfl | rfl | rfl
    · exact g31_1
    · exact g31_2
    · exact g31_3
    · exact g31_4
    · exact g31_5
  · rcases hk with rfl | rfl | rfl | rfl | rfl
    · exact g32_1
    · exact g32_2
    · exact g32_3
    · exact g32_4
    · exact g32_5
  · rcases hk with rfl | rfl | rfl | rfl | rfl
    · exact g33_1
    · exact g33_2
    · exact g33_3
    · exact g33_4
    · exact g33_5
theorem pattern_eq : F_law_pattern = F_pattern := rfl
theorem taken_eq : F_law_taken = F_taken := rfl
theorem law_true (ns : List Int) (_ : ns.length ≤ 63) : ∃ fs, F_law [.d (.list (ns.map .int))] = some (.d (.bool true), fs) := by
  obtain ⟨p, o1, e1, hp, hr⟩ := pattern_ok (ns := ns) (o := .l [.list (ns.map .int), .int 0, .int 3365, .int 0]) (a := 1) (b := 5) ⟨0, 3365, 0, by omega, rfl⟩ (by omega) (by omega) (by omega)
  obtain ⟨v, o2, e2, v1, v2, hr2⟩ := taken_ok hr (m := 5) (by omega) (by omega)
  rw [pats_eq] at hp
  have key := all_ok hp (k := 1 + v) (by omega) (by omega) (some (.d (.list (ns.map .int)))) (some o2)
  rw [B_rest_lawR_eq] at key
  obtain ⟨e', key⟩ := run_of key
  have e1' : F_law_pattern [.l [.list (ns.map .int), .int 0, .int 3365, .int 0], .d (.int 1), .d (.int 5)] = some (.d (.tuple (zs p)), [some o1, some (.d (.int 1)), some (.d (.int 5))]) := by
    rw [pattern_eq]
    exact e1
  rw [← taken_eq] at e2
  refine ⟨_, runDef_rt (e := e') rfl ?_⟩
  show B_law [some (.d (.list (ns.map .int))), none, none, none, none, none, none, none, none, none, none, none, none] = _
  unfold B_law
  have b1 : sSet 1 (eLst (aCons (eVar 0) (aCons (eC (.int 0)) (aCons (eC (.int 3365)) (aCons (eC (.int 0)) aNil))))) [some (.d (.list (ns.map .int))), none, none, none, none, none, none, none, none, none, none, none, none] = some (.nx [some (.d (.list (ns.map .int))), some (.l [.list (ns.map .int), .int 0, .int 3365, .int 0]), none, none, none, none, none, none, none, none, none, none, none]) := by
    simp
  rw [sSeq_run b1]
  have b2 : sParN [oName 9, oName 10] (aCons (eFr (eCall F_law_pattern [some 1, none, none] (aOwn 1 (aCons (eC (.int 1)) (aCons (eC (.int 5)) aNil))))) (aCons (eFr (eOp2 gAdd (pV (eC (.int 1))) (pV (eCall F_law_taken [some 1, none] (aOwn 1 (aCons (eC (.int 5)) aNil)))))) aNil)) [some (.d (.list (ns.map .int))), some (.l [.list (ns.map .int), .int 0, .int 3365, .int 0]), none, none, none, none, none, none, none, none, none, none, none] = some (.nx [some (.d (.list (ns.map .int))), some o2, none, none, none, none, none, none, none, some (tp p), some (.d (.int (1 + v))), none, none]) := by
    simp [sParN, aCons, e1', e2, asgAll]
  rw [sSeq_run b2]
  exact key
end Sh.K65

open PySem PySem.W PyProof.Rows
set_option maxHeartbeats 0 in
theorem PySem.Challenge.cw_shiftcore_k65_whole_numbers_of_cycles_holds : PySem.Challenge.rw_shiftcore_k65_whole_numbers_of_cycles.Holds := by
  w_on; o_law; k_head; (case hw => w_witness2)
  k_fill
  refine Sh.walk_tabs (l := PySem.Challenge.rw_shiftcore_k65_whole_numbers_of_cycles) (n := 63) (k := 14) (x := "script") (CX := fun _ => L2.CX0) rfl (by decide) rfl ⟨rfl, by decide, by decide⟩ (fun w h Y => by first | exact PySem.W.kIn_of Y | exact PySem.W.km_in_of Y) ?F (fun _ _ _ _ _ h => h)
  case F =>
    intro w mg fa h KX G hmg R
    refine' Sh.K65.all_mk KX G hmg R rfl Sh.K65.law_true ?a0 ?l0 ?c0 ?k0 ?a1 ?l1 ?c1 ?k1 ?a2 ?l2 ?c2 ?k2 ?a3 ?l3 ?c3 ?k3 ?a4 ?l4 ?c4 ?k4 ?a5 ?l5 ?c5 ?k5 ?a6 ?l6 ?c6 ?k6 ?a7 ?l7 ?c7 ?k7 ?a8 ?l8 ?c8 ?k8 ?a9 ?l9 ?c9 ?k9 ?a10 ?l10 ?c10 ?k10 ?a11 ?l11 ?c11 ?k11 ?a12 ?l12 ?c12 ?k12 ?a13 ?l13 ?c13 ?k13 ?a14 ?l14 ?c14 ?k14 ?a15 ?l15 ?c15 ?k15 ?a16 ?l16 ?c16 ?k16 ?a17 ?l17 ?c17 ?k17 ?a18 ?l18 ?c18 ?k18 ?a19 ?l19 ?c19 ?k19 ?a20 ?l20 ?c20 ?k20 ?a21 ?l21 ?c21 ?k21 ?z_abs ?z_all ?z_any ?z_bool ?z_int ?z_isinstance ?z_len ?z_list ?z_max ?z_min ?z_range ?z_sorted ?z_str ?z_sum ?z_tuple ?xa_BadNumber ?xa_BadPattern ?xa_ShiftError ?xa_TooMany ?xk_BadNumber ?xe_BadNumber ?xs_BadNumber ?xt_BadNumber ?xm_BadNumber ?xu_BadNumber ?xq_BadNumber_TooMany ?xk_BadPattern ?xe_BadPattern ?xs_BadPattern ?xt_BadPattern ?xm_BadPattern ?xu_BadPattern ?xq_BadPattern_TooMany ?xi_TooMany ?xl_TooMany ?xd_TooMany ?xp_TooMany ?xj_TooMany ?xo_TooMany ?xm_TooMany ?xu_TooMany ?xq_TooMany_TooMany ?y_MOST_PATTERN ?y_MOST_PERIOD ?d11 ?m11 ?p11 ?n11 ?q11 ?d12 ?m12 ?p12 ?n12 ?q12 ?d18 ?m18 ?p18 ?n18 ?q18 ?d21 ?m21 ?p21 ?n21 ?q21 ?nu
    (case a0 => k_is); (case l0 => k_is); (case c0 => k_is); (case k0 => k_is); (case a1 => k_is); (case l1 => k_is); (case c1 => k_is); (case k1 => k_is); (case a2 => k_is); (case l2 => k_is); (case c2 => k_is); (case k2 => k_is); (case a3 => k_is); (case l3 => k_is); (case c3 => k_is); (case k3 => k_is); (case a4 => k_is); (case l4 => k_is); (case c4 => k_is); (case k4 => k_is); (case a5 => k_is); (case l5 => k_is); (case c5 => k_is); (case k5 => k_is); (case a6 => k_is); (case l6 => k_is); (case c6 => k_is); (case k6 => k_is); (case a7 => k_is); (case l7 => k_is); (case c7 => k_is); (case k7 => k_is); (case a8 => k_is); (case l8 => k_is); (case c8 => k_is); (case k8 => k_is); (case a9 => k_is); (case l9 => k_is); (case c9 => k_is); (case k9 => k_is); (case a10 => k_is); (case l10 => k_is); (case c10 => k_is); (case k10 => k_is); (case a11 => k_is); (case l11 => k_is); (case c11 => k_is); (case k11 => k_is); (case a12 => k_is); (case l12 => k_is); (case c12 => k_is); (case k12 => k_is); (case a13 => k_is); (case l13 => k_is); (case c13 => k_is); (case k13 => k_is); (case a14 => k_is); (case l14 => k_is); (case c14 => k_is); (case k14 => k_is); (case a15 => k_is); (case l15 => k_is); (case c15 => k_is); (case k15 => k_is); (case a16 => k_is); (case l16 => k_is); (case c16 => k_is); (case k16 => k_is); (case a17 => k_is); (case l17 => k_is); (case c17 => k_is); (case k17 => k_is); (case a18 => k_is); (case l18 => k_is); (case c18 => k_is); (case k18 => k_is); (case a19 => k_is); (case l19 => k_is); (case c19 => k_is); (case k19 => k_is); (case a20 => k_is); (case l20 => k_is); (case c20 => k_is); (case k20 => k_is); (case a21 => k_is); (case l21 => k_is); (case c21 => k_is); (case k21 => k_is); (case z_abs => k_is); (case z_all => k_is); (case z_any => k_is); (case z_bool => k_is); (case z_int => k_is); (case z_isinstance => k_is); (case z_len => k_is); (case z_list => k_is); (case z_max => k_is); (case z_min => k_is); (case z_range => k_is); (case z_sorted => k_is); (case z_str => k_is); (case z_sum => k_is); (case z_tuple => k_is); (case xa_BadNumber => k_is); (case xa_BadPattern => k_is); (case xa_ShiftError => k_is); (case xa_TooMany => k_is); (case xk_BadNumber => k_is); (case xe_BadNumber => k_exc); (case xs_BadNumber => k_is); (case xt_BadNumber => k_is); (case xm_BadNumber => kernel_rfl); (case xu_BadNumber => kernel_rfl); (case xq_BadNumber_TooMany => kernel_rfl); (case xk_BadPattern => k_is); (case xe_BadPattern => k_exc); (case xs_BadPattern => k_is); (case xt_BadPattern => k_is); (case xm_BadPattern => kernel_rfl); (case xu_BadPattern => kernel_rfl); (case xq_BadPattern_TooMany => kernel_rfl); (case xi_TooMany => k_is); (case xl_TooMany => k_is); (case xd_TooMany => k_is); (case xp_TooMany => k_is); (case xj_TooMany => k_is); (case xo_TooMany => kernel_rfl); (case xm_TooMany => kernel_rfl); (case xu_TooMany => kernel_rfl); (case xq_TooMany_TooMany => kernel_rfl); (case y_MOST_PATTERN => k_is); (case y_MOST_PERIOD => k_is); (case d11 => rfl); (case m11 => k_is); (case p11 => rfl); (case n11 => kernel_rfl); (case q11 => decide +kernel); (case d12 => rfl); (case m12 => k_is); (case p12 => rfl); (case n12 => kernel_rfl); (case q12 => decide +kernel); (case d18 => rfl); (case m18 => k_is); (case p18 => rfl); (case n18 => kernel_rfl); (case q18 => decide +kernel); (case d21 => rfl); (case m21 => k_is); (case p21 => rfl); (case n21 => kernel_rfl); (case q21 => decide +kernel); (case nu => decide +kernel)
