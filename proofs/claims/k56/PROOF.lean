import PyProof.Rows.All
import Wide.All
import OpenK.AllK
import Wide.FinOn
import HandS.ForMost
import KE.SortData
import HandS.IsInst
import HandS.TupAny
import HandS.Deep
import HandS.AnyAll
import PySem.Challenge.RW_shiftcore_k56_whole_order_of_periods
set_option Elab.async false
set_option linter.all false
set_option maxRecDepth 100000
/-! Shift layer 1: values with an owner, environments, and the meaning of each construct as a plain function. No machine here. -/
namespace Sh
open PySem
abbrev D := PyData
inductive O where
  | d (x : D) | l (xs : List D) | m (t : Bool) (kvs : List (D × D))
abbrev Ev := List (Option O)
abbrev Ex := Ev → Option (O × Ev)
abbrev ExB := Ev → Option (Bool × Ev)
abbrev ExA := Ev → Option (List O × Ev)
/-- an operand: a value, or the slot it stands in -/
abbrev ExP := Ev → Option ((O ⊕ Nat) × Ev)
inductive Out where
  | nx (e : Ev) | rt (r : O) (e : Ev) | bk (e : Ev)
abbrev Sx := Ev → Option Out
abbrev Fn := List O → Option (O × List (Option O))

@[simp] def frz : O → Option D
  | .d x => some x
  | .l xs => some (.list xs)
  | .m _ _ => none
@[simp] def frzAll : List O → Option (List D)
  | [] => some []
  | o :: r => (frz o).bind fun x => (frzAll r).bind fun xs => some (x :: xs)
@[simp] def slot (e : Ev) (j : Nat) : Option O := (e[j]?).bind id
@[simp] def res (e : Ev) : O ⊕ Nat → Option O
  | .inl o => some o
  | .inr j => slot e j
@[simp] def oSeq : O → Option (List D)
  | .d (.list xs) => some xs
  | .d (.tuple xs) => some xs
  | .l xs => some xs
  | _ => none
@[simp] def oLst : O → Option (List D)
  | .d (.list xs) => some xs
  | .l xs => some xs
  | _ => none
@[simp] def oInt : O → Option Int
  | .d (.int i) => some i
  | _ => none
@[simp] def oBool : O → Option Bool
  | .d (.bool b) => some b
  | _ => none
@[simp] def oTru : O → Option Bool
  | .d .none => some false
  | .d (.bool b) => some b
  | .d (.int i) => some (i != 0)
  | .d (.str x) => if x.length ≤ 1000 then some ((x.length : Int) != 0) else none
  | .d (.list xs) => some (!xs.isEmpty)
  | .d (.tuple xs) => some (!xs.isEmpty)
  | .l xs => some (!xs.isEmpty)
  | .m false kvs => some (!kvs.isEmpty)
  | _ => none



@[simp] def dItem (xs : List D) (i : Int) : Option D := L2.atI xs i

/-! ### expressions -/
@[simp] def eVar (j : Nat) : Ex := fun e => match slot e j with
  | some (.d x) => some (.d x, e)
  | _ => none
/-- the slot's owned list, known from now on -/
@[simp] def eFrz (j : Nat) : Ex := fun e => (slot e j).bind fun o => (frz o).bind fun x => some (.d x, e.set j (some (.d x)))
@[simp] def eC (x : D) : Ex := fun e => some (.d x, e)
@[simp] def pV (a : Ex) : ExP := fun e => (a e).bind fun p => some (.inl p.1, p.2)
@[simp] def pS (j : Nat) : ExP := fun e => (slot e j).bind fun _ => some (.inr j, e)
@[simp] def eOp1 (g : O → Option O) (a : ExP) : Ex := fun e => (a e).bind fun p => (res p.2 p.1).bind fun x => (g x).bind fun z => some (z, p.2)
@[simp] def eOp2 (g : O → O → Option O) (a b : ExP) : Ex := fun e => (a e).bind fun p => (b p.2).bind fun q => (res q.2 p.1).bind fun x => (res q.2 q.1).bind fun y => (g x y).bind fun z => some (z, q.2)
@[simp] def bOp2 (g : O → O → Option Bool) (a b : ExP) : ExB := fun e => (a e).bind fun p => (b p.2).bind fun q => (res q.2 p.1).bind fun x => (res q.2 q.1).bind fun y => (g x y).bind fun z => some (z, q.2)
@[simp] def eB (a : ExB) : Ex := fun e => (a e).bind fun p => some (.d (.bool p.1), p.2)
@[simp] def bTru (a : ExP) : ExB := fun e => (a e).bind fun p => (res p.2 p.1).bind fun x => (oTru x).bind fun k => some (k, p.2)
@[simp] def bAnd (a b : ExB) : ExB := fun e => (a e).bind fun p => if p.1 = true then b p.2 else some (false, p.2)
@[simp] def bOr (a b : ExB) : ExB := fun e => (a e).bind fun p => if p.1 = true then some (true, p.2) else b p.2
@[simp] def bNot (a : ExB) : ExB := fun e => (a e).bind fun p => some (!p.1, p.2)
/-- x and y as a value, x a bool -/
@[simp] def eAnd (a b : Ex) : Ex := fun e => (a e).bind fun p => (oBool p.1).bind fun k => if k = true then b p.2 else some (.d (.bool false), p.2)
@[simp] def eOr (a b : Ex) : Ex := fun e => (a e).bind fun p => (oBool p.1).bind fun k => if k = true then some (.d (.bool true), p.2) else b p.2
@[simp] def eNot (a : Ex) : Ex := fun e => (a e).bind fun p => (oBool p.1).bind fun k => some (.d (.bool (!k)), p.2)
@[simp] def eIf (c : ExB) (a b : Ex) : Ex := fun e => (c e).bind fun p => if p.1 = true then a p.2 else b p.2
/-- a op1 b op2 c -/
@[simp] def eChain (g g' : O → O → Option Bool) (a b c : Ex) : Ex := fun e => (a e).bind fun p => (b p.2).bind fun q => (g p.1 q.1).bind fun k =>
  if k = true then (c q.2).bind fun r => (g' q.1 r.1).bind fun k' => some (.d (.bool k'), r.2) else some (.d (.bool false), q.2)
@[simp] def bChain (g g' : O → O → Option Bool) (a b c : Ex) : ExB := fun e => (a e).bind fun p => (b p.2).bind fun q => (g p.1 q.1).bind fun k =>
  if k = true then (c q.2).bind fun r => (g' q.1 r.1).bind fun k' => some (k', r.2) else some (false, q.2)
@[simp] def aNil : ExA := fun e => some ([], e)
@[simp] def aCons (a : Ex) (r : ExA) : ExA := fun e => (a e).bind fun p => (r p.2).bind fun q => some (p.1 :: q.1, q.2)
@[simp] def eTup (as : ExA) : Ex := fun e => (as e).bind fun p => (frzAll p.1).bind fun xs => if xs.length ≤ 1000 then some (.d (.tuple xs), p.2) else none
@[simp] def eLst (as : ExA) : Ex := fun e => (as e).bind fun p => (frzAll p.1).bind fun xs => if xs.length ≤ 1000 then some (.l xs, p.2) else none

/-! ### operators -/
@[simp] def gAdd : O → O → Option O
  | .d (.int i), .d (.int j) => some (.d (.int (i + j)))
  | .d (.tuple xs), .d (.tuple ys) => if xs.length + ys.length ≤ 1000000 then some (.d (.tuple (xs ++ ys))) else none
  | x, y => (oLst x).bind fun xs => (oLst y).bind fun ys => if xs.length + ys.length ≤ 1000000 then some (.l (xs ++ ys)) else none
@[simp] def gSub : O → O → Option O
  | .d (.int i), .d (.int j) => some (.d (.int (i - j)))
  | _, _ => none
@[simp] def gMul : O → O → Option O
  | .d (.int i), .d (.int j) => if -(2 ^ 64) < i ∧ i < 2 ^ 64 ∨ -(2 ^ 64) < j ∧ j < 2 ^ 64 then some (.d (.int (i * j))) else none
  | _, _ => none
@[simp] def gDiv : O → O → Option O
  | .d (.int i), .d (.int j) => if 0 < j ∧ j < 1073741824 then some (.d (.int (i / j))) else none
  | _, _ => none
@[simp] def gMod : O → O → Option O
  | .d (.int i), .d (.int j) => if 0 < j then some (.d (.int (i % j))) else none
  | _, _ => none
@[simp] def gPow : O → O → Option O
  | .d (.int i), .d (.int j) => if 0 ≤ j ∧ j ≤ 1000000 ∧ i.natAbs < 2 ^ 64 then some (.d (.int (i ^ j.toNat))) else none
  | _, _ => none
@[simp] def gNeg : O → Option O
  | .d (.int i) => some (.d (.int (-i)))
  | _ => none
@[simp] def intsOf : List D → Option (List Int)
  | [] => some []
  | .int i :: r => (intsOf r).bind fun ns => some (i :: ns)
  | _ => none
/-- order: ints; tuples of ints -/
@[simp] def gLt : O → O → Option Bool
  | .d (.int i), .d (.int j) => some (decide (i < j))
  | .d (.tuple xs), .d (.tuple ys) => (intsOf xs).bind fun ns => (intsOf ys).bind fun ms => some (HT.lexLt ns ms)
  | _, _ => none
@[simp] def gGt : O → O → Option Bool
  | .d (.int i), .d (.int j) => some (decide (j < i))
  | _, _ => none
@[simp] def gLe : O → O → Option Bool
  | .d (.int i), .d (.int j) => some (decide (i ≤ j))
  | _, _ => none
@[simp] def gGe : O → O → Option Bool
  | .d (.int i), .d (.int j) => some (decide (j ≤ i))
  | _, _ => none
@[simp] def oDat : O → Option D
  | .d x => some x
  | .l xs => some (.list xs)
  | _ => none
@[simp] def gEq (x y : O) : Option Bool := (oDat x).bind fun a => (oDat y).bind fun b => if SeqAt.shaped a = true ∧ SeqAt.shaped b = true then some (PyData.eqv a b) else none
@[simp] def gNe (x y : O) : Option Bool := (gEq x y).bind fun k => some (!k)
@[simp] def gB (g : O → O → Option Bool) (x y : O) : Option O := (g x y).bind fun k => some (.d (.bool k))
@[simp] def gIsN : O → Option Bool
  | .d .none => some true
  | .d _ => some false
  | .l _ => some false
  | .m _ _ => some false
@[simp] def gIs : O → O → Option Bool
  | x, .d .none => gIsN x
  | _, _ => none
@[simp] def gIsNot (x y : O) : Option Bool := (gIs x y).bind fun k => some (!k)
def gIn (x y : O) : Option Bool := (oDat x).bind fun a => (oLst y).bind fun ys => if SeqAt.shaped a = true ∧ SeqAt.shaped (.list ys) = true then some (ys.any fun z => PyData.eqv z a) else none
def gNotIn (x y : O) : Option Bool := (gIn x y).bind fun k => some (!k)
@[simp] def gItem (x i : O) : Option O := (oSeq x).bind fun xs => (oInt i).bind fun k => (dItem xs k).bind fun z => some (.d z)
@[simp] def gLen (x : O) : Option O := match x with
  | .m false kvs => some (.d (.int kvs.length))
  | _ => (oSeq x).bind fun xs => some (.d (.int xs.length))
@[simp] def gInt : O → Option O
  | .d (.int i) => some (.d (.int i))
  | .d (.bool b) => some (.d (.int (if b then 1 else 0)))
  | _ => none

@[simp] def tyName : O → String
  | .d .none => "NoneType"
  | .d (.bool _) => "bool"
  | .d (.int _) => "int"
  | .d (.str _) => "str"
  | .d (.list _) => "list"
  | .d (.tuple _) => "tuple"
  | .d (.dict _) => "?"
  | .l _ => "list"
  | .m _ _ => "dict"
@[simp] def isaTy (t n : String) : Bool := t == n || (t == "bool" && n == "int")
@[simp] def gIsa (ns : List String) : O → Option O
  | .d (.dict _) => none
  | o => some (.d (.bool (ns.any (isaTy (tyName o)))))

/-! ### calls of the program's own defs -/
/-- an argument: a value, or the owned list that stands in a slot -/
@[simp] def aOwn (j : Nat) (r : ExA) : ExA := fun e => (slot e j).bind fun _ => (r e).bind fun q => (slot q.2 j).bind fun o => some (o :: q.1, q.2)
@[simp] def putBack : List (Option Nat) → List (Option O) → Ev → Ev
  | some j :: own, o :: os, e => putBack own os (e.set j o)
  | none :: own, _ :: os, e => putBack own os e
  | _, _, e => e
@[simp] def clearE : List (Option Nat) → Ev → Ev
  | some j :: own, e => (clearE own e).set j none
  | none :: own, e => clearE own e
  | [], e => e
@[simp] def eCall (F : Fn) (own : List (Option Nat)) (as : ExA) : Ex := fun e => (as e).bind fun p => (F p.1).bind fun q => some (q.1, putBack own q.2 (clearE own p.2))

/-! ### what is walked; comprehensions -/
abbrev ExI := Ev → Option (List D × Ev)
abbrev Tg := D → Ev → Option Ev
@[simp] def iLst (a : Ex) : ExI := fun e => (a e).bind fun p => (oLst p.1).bind fun xs => some (xs, p.2)
@[simp] def oTup : O → Option (List D)
  | .d (.tuple xs) => some xs
  | _ => none
@[simp] def iTup (a : Ex) : ExI := fun e => (a e).bind fun p => (oTup p.1).bind fun xs => some (xs, p.2)
def rangeD (lo hi : Int) : List D := (List.range (hi - lo).toNat).map fun k => .int (lo + (k : Nat))
@[simp] def iRange (a : Ex) : ExI := fun e => (a e).bind fun p => (oInt p.1).bind fun n => if -1000000 ≤ n ∧ n ≤ 1000000 then some (rangeD 0 n, p.2) else none
@[simp] def iRange2 (a b : Ex) : ExI := fun e => (a e).bind fun p => (b p.2).bind fun q => (oInt p.1).bind fun m => (oInt q.1).bind fun n =>
  if -1000000 ≤ m ∧ m ≤ 1000000 ∧ -1000000 ≤ n ∧ n ≤ 1000000 then some (rangeD m n, q.2) else none
@[simp] def tName (i : Nat) : Tg := fun x e => some (e.set i (some (.d x)))
@[simp] def tAll : List Tg → List D → Ev → Option Ev
  | [], [], e => some e
  | t :: ts, x :: xs, e => (t x e).bind fun e1 => tAll ts xs e1
  | _, _, _ => none
@[simp] def tTupl (ts : List Tg) : Tg := fun x e => match x with
  | .tuple xs => tAll ts xs e
  | _ => none
@[simp] def wipeE : Ev → List Nat → Ev
  | e, [] => e
  | e, v :: vs => (wipeE e vs).set v none
@[simp] def backE (old : Ev) : Ev → List Nat → Ev
  | e, [] => e
  | e, v :: vs => backE old (e.set v (slot old v)) vs
/-- no owned thing stands in these slots -/
@[simp] def plainE (e : Ev) : List Nat → Bool
  | [] => true
  | v :: vs => (match slot e v with
    | some (.l _) => false
    | some (.m _ _) => false
    | _ => true) && plainE e vs
@[simp] def bYes : ExB := fun e => some (true, e)
def compLoop (own : List Nat) (tg : Tg) (cond : ExB) (elt : Ex) : List D → Ev → Option (List D × Ev)
  | [], e => some ([], e)
  | x :: xs, e => (tg x e).bind fun e1 => (cond e1).bind fun p =>
    if p.1 = true then (elt p.2).bind fun q => (frz q.1).bind fun y => (compLoop own tg cond elt xs (wipeE q.2 own)).bind fun r => some (y :: r.1, r.2)
    else compLoop own tg cond elt xs (wipeE p.2 own)
@[simp] def eComp (own : List Nat) (it : ExI) (tg : Tg) (cond : ExB) (elt : Ex) : Ex := fun e => (it e).bind fun p => if p.1.length ≤ 1000000 ∧ plainE p.2 own = true then
  (compLoop own tg cond elt p.1 (wipeE p.2 own)).bind fun r => some (.l r.1, backE p.2 r.2 own) else none

/-! ### statements -/
@[simp] def sNil : Sx := fun e => some (.nx e)
@[simp] def sSeq (a b : Sx) : Sx := fun e => (a e).bind fun o => match o with
  | .nx e1 => b e1
  | r => some r
@[simp] def sSet (i : Nat) (a : Ex) : Sx := fun e => (a e).bind fun p => some (.nx (p.2.set i (some p.1)))
@[simp] def sSetF (i : Nat) (a : Ex) : Sx := fun e => (a e).bind fun p => (frz p.1).bind fun x => some (.nx (p.2.set i (some (.d x))))
@[simp] def sPar2 (i j : Nat) (a b : Ex) : Sx := fun e => (a e).bind fun p => (b p.2).bind fun q => some (.nx ((q.2.set i (some p.1)).set j (some q.1)))
@[simp] def sPar3 (i j k : Nat) (a b c : Ex) : Sx := fun e => (a e).bind fun p => (b p.2).bind fun q => (c q.2).bind fun r => some (.nx (((r.2.set i (some p.1)).set j (some q.1)).set k (some r.1)))
/-- a value known from now on -/
@[simp] def eFr (a : Ex) : Ex := fun e => (a e).bind fun p => (frz p.1).bind fun x => some (.d x, p.2)
/-- targets that take what they are given -/
abbrev TgO := O → Ev → Option Ev
@[simp] def oName (i : Nat) : TgO := fun o e => some (e.set i (some o))
@[simp] def oTg (t : Tg) : TgO := fun o e => (frz o).bind fun x => t x e
@[simp] def asgAll : List TgO → List O → Ev → Option Ev
  | [], [], e => some e
  | t :: ts, o :: os, e => (t o e).bind fun e1 => asgAll ts os e1
  | _, _, _ => none
/-- t1, t2, .. = a1, a2, .. -/
@[simp] def sParN (ts : List TgO) (as : ExA) : Sx := fun e => (as e).bind fun p => (asgAll ts p.1 p.2).bind fun e1 => some (.nx e1)
/-- target = value, the target of any form -/
@[simp] def sTg (t : Tg) (a : Ex) : Sx := fun e => (a e).bind fun p => (frz p.1).bind fun x => (t x p.2).bind fun e1 => some (.nx e1)
@[simp] def oOwn : O → Option (List D)
  | .l xs => some xs
  | _ => none
/-- x[i] as a target -/
@[simp] def oSub (j : Nat) (i : Ex) : TgO := fun v e => (slot e j).bind fun _ => (i e).bind fun q => (slot q.2 j).bind fun o => (oOwn o).bind fun xs =>
  (frz v).bind fun y => (oInt q.1).bind fun k => (L2.ixN xs.length k).bind fun n => some (q.2.set j (some (.l (xs.set n y))))
/-- x[i] = v -/
@[simp] def sSub (j : Nat) (i v : Ex) : Sx := fun e => (v e).bind fun p => (slot p.2 j).bind fun _ => (i p.2).bind fun q => (slot q.2 j).bind fun o => (oOwn o).bind fun xs =>
  (frz p.1).bind fun y => (oInt q.1).bind fun k => (L2.ixN xs.length k).bind fun n => some (.nx (q.2.set j (some (.l (xs.set n y)))))
@[simp] def sApp (j : Nat) (v : Ex) : Sx := fun e => (slot e j).bind fun o0 => (oOwn o0).bind fun _ => (v e).bind fun p => (slot p.2 j).bind fun o => (oOwn o).bind fun xs =>
  (frz p.1).bind fun y => if xs.length < 1000000 then some (.nx (p.2.set j (some (.l (xs ++ [y]))))) else none
@[simp] def sExpr (a : Ex) : Sx := fun e => (a e).bind fun p => some (.nx p.2)
@[simp] def sRet (a : Ex) : Sx := fun e => (a e).bind fun p => some (.rt p.1 p.2)
/-- return x, x an owned list -/
@[simp] def sRetS (j : Nat) : Sx := fun e => (slot e j).bind fun o => some (.rt o (e.set j none))
@[simp] def sIf (c : ExB) (a b : Sx) : Sx := fun e => (c e).bind fun p => if p.1 = true then a p.2 else b p.2
@[simp] def sBrk : Sx := fun e => some (.bk e)
@[simp] def sNev : Sx := fun _ => none
def forLoop (tg : Tg) (body : Sx) : List D → Ev → Option Out
  | [], e => some (.nx e)
  | x :: xs, e => (tg x e).bind fun e1 => (body e1).bind fun o => match o with
    | .nx e2 => forLoop tg body xs e2
    | .bk e2 => some (.nx e2)
    | .rt r e2 => some (.rt r e2)
@[simp] def sFor (it : ExI) (tg : Tg) (body : Sx) : Sx := fun e => (it e).bind fun p => forLoop tg body p.1 p.2
def whileLoop (c : ExB) (body : Sx) : Nat → Ev → Option Out
  | 0, _ => none
  | n + 1, e => (c e).bind fun p => if p.1 = true then (body p.2).bind fun o => match o with
    | .nx e2 => whileLoop c body n e2
    | .bk e2 => some (.nx e2)
    | .rt r e2 => some (.rt r e2)
    else some (.nx p.2)
@[simp] def sWhile (n : Nat) (c : ExB) (body : Sx) : Sx := fun e => whileLoop c body n e

def FU : Nat := 1000000000
@[simp] def fins (lk : Nat → Bool) (e : Ev) : Nat → List (Option O)
  | 0 => []
  | n + 1 => fins lk e n ++ [if lk n = true then slot e n else none]
/-- a def: n slots, np parameters; lk: the parameters that no row of it stores to -/
def runDef (n np : Nat) (lk : Nat → Bool) (body : Sx) : Fn := fun os => if os.length = np then (body (os.map some ++ List.replicate (n - np) none)).bind fun o => match o with
  | .rt r e => some (r, fins lk e np)
  | .nx e => some (.d .none, fins lk e np)
  | .bk _ => none
  else none
end Sh

/-! Shift layer 2: what the plain values are in the machine's heap. -/
namespace Sh
open PySem PySem.Spec PyProof.Rows L2
abbrev St := L2.St

section
variable {K : PySem.W.Frag} {G G' : Hp}
theorem same_sqT {a : Addr} {xs : List V} (e : Same G G') (h : SqT K G a xs) : SqT K G' a xs := by
  rcases h with (h | ⟨o, h⟩) | h
  · exact .inl (.inl (e _ _ h))
  · exact .inl (.inr ⟨o, e _ _ h⟩)
  · exact .inr h
mutual
theorem dp_mono (e : Same G G') : ∀ (v : V) (d : D), Dp K G v d → Dp K G' v d
  | _, _, .non => .non
  | _, _, .bl b => .bl b
  | _, _, .int i => .int i
  | _, _, .str x => .str x
  | _, _, .lst h hs => .lst (e.seq h) (dps_mono e _ _ hs)
  | _, _, .tup h hs => .tup (same_sqT e h) (dps_mono e _ _ hs)
theorem dps_mono (e : Same G G') : ∀ (vs : List V) (ds : List D), DpAll K G vs ds → DpAll K G' vs ds
  | _, _, .nil => .nil
  | _, _, .cons h hs => .cons (dp_mono e _ _ h) (dps_mono e _ _ hs)
end
theorem dps_len : ∀ {vs : List V} {ds : List D}, DpAll K G vs ds → vs.length = ds.length
  | _, _, .nil => rfl
  | _, _, .cons _ hs => by rw [List.length_cons, List.length_cons, dps_len hs]
theorem dps_get : ∀ {vs : List V} {ds : List D} {i : Nat} {d : D}, DpAll K G vs ds → ds[i]? = some d → ∃ v, vs[i]? = some v ∧ Dp K G v d
  | _, _, _, _, .nil, e => by simp at e
  | _, _, 0, _, .cons h _, e => by
    simp at e
    subst e
    exact ⟨_, rfl, h⟩
  | _, _, i + 1, d, .cons _ hs, e => by
    obtain ⟨v, a, b⟩ := dps_get (i := i) (d := d) hs (by simpa using e)
    exact ⟨v, by simpa using a, b⟩
theorem dps_app : ∀ {vs ws : List V} {ds es : List D}, DpAll K G vs ds → DpAll K G ws es → DpAll K G (vs ++ ws) (ds ++ es)
  | _, _, _, _, .nil, h => h
  | _, _, _, _, .cons h hs, h' => .cons h (dps_app hs h')
theorem dps_set : ∀ {vs : List V} {ds : List D} {v : V} {d : D} (i : Nat), DpAll K G vs ds → Dp K G v d → DpAll K G (vs.set i v) (ds.set i d)
  | _, _, _, _, _, .nil, _ => .nil
  | _, _, _, _, 0, .cons _ hs, h => .cons h hs
  | _, _, _, _, i + 1, .cons h0 hs, h => .cons h0 (dps_set i hs h)
end

def keyD : Key → D
  | .inl i => .int i
  | .inr x => .str x
abbrev Cell := Addr × HO
/-- a dict's pairs -/
def KVr (K : PySem.W.Frag) (G : Hp) : List (D × D) → List (Key × V) → Prop := Paired fun p q => p.1 = keyD q.1 ∧ Dp K G q.2 p.2
inductive OT (K : PySem.W.Frag) (G : Hp) : O → V → List Cell → Prop where
  | d {x : D} {v : V} : Dp K G v x → OT K G (.d x) v []
  | l {xs : List D} {p : Addr} {vs : List V} : DpAll K G vs xs → OT K G (.l xs) (.ref p) [(p, .lst vs)]
  | m {kvs : List (D × D)} {p : Addr} {ks : List (Key × V)} : KVr K G kvs ks → OT K G (.m false kvs) (.ref p) [(p, .dK ks)]
inductive RelS (K : PySem.W.Frag) (G : Hp) : Ev → St → List Cell → Prop where
  | nil : RelS K G [] [] []
  | none {e : Ev} {σ : St} {x : Option V} {L : List Cell} : RelS K G e σ L → RelS K G (none :: e) (x :: σ) L
  | some {o : O} {v : V} {c : List Cell} {e : Ev} {σ : St} {L : List Cell} : OT K G o v c → RelS K G e σ L → RelS K G (some o :: e) (some v :: σ) (c ++ L)
/-- G: what stands for ever; L: what is owned; T: the tables of code objects -/
structure Sep (T : List Addr) (G H : Hp) (L : List Cell) : Prop where
  nd : (L.map (·.1)).Nodup
  at_ : ∀ c ∈ L, H c.1 = some c.2 ∧ G c.1 = none
  same : Same G H
  tab : ∀ P ∈ T, GxR.TabG H P ∧ G P = none ∧ ∀ c ∈ L, c.1 ≠ P
/-- L' is a part of L -/
def Sub (L' L : List Cell) : Prop := ∃ Ld, L.Perm (L' ++ Ld)

section
variable {K : PySem.W.Frag} {T : List Addr} {G G' H H' : Hp} {L L' L'' : List Cell}
theorem Sub.refl : Sub L L := ⟨[], by simp⟩
theorem Sub.trans (a : Sub L' L) (b : Sub L'' L') : Sub L'' L := by
  obtain ⟨d, h⟩ := a
  obtain ⟨d', h'⟩ := b
  refine ⟨d' ++ d, h.trans ?_⟩
  rw [← List.append_assoc]
  exact h'.append_right d
theorem Sub.perm (h : L.Perm L') : Sub L' L := ⟨[], by simpa using h⟩
theorem Sub.right {Lx : List Cell} (a : Sub L' L) : Sub (L' ++ Lx) (L ++ Lx) := by
  obtain ⟨d, h⟩ := a
  refine ⟨d, (h.append_right Lx).trans ?_⟩
  rw [List.append_assoc, List.append_assoc]
  exact (List.perm_append_comm).append_left L'
theorem Sub.left {Lx : List Cell} (a : Sub L' L) : Sub (Lx ++ L') (Lx ++ L) := by
  obtain ⟨d, h⟩ := a
  refine ⟨d, (h.append_left Lx).trans ?_⟩
  rw [List.append_assoc]
theorem Sub.drop {Lx : List Cell} : Sub L (Lx ++ L) := ⟨Lx, List.perm_append_comm⟩
theorem Sub.dropR {Lx : List Cell} : Sub L (L ++ Lx) := ⟨Lx, .refl _⟩
theorem Sub.mem (a : Sub L' L) {c : Cell} (h : c ∈ L') : c ∈ L := by
  obtain ⟨d, p⟩ := a
  exact p.mem_iff.mpr (List.mem_append_left _ h)
theorem Sep.sub (s : Sep T G H L) (a : Sub L' L) : Sep T G H L' := by
  refine ⟨?_, fun c h => s.at_ c (a.mem h), s.same, fun P hP => ⟨(s.tab P hP).1, (s.tab P hP).2.1, fun c h => (s.tab P hP).2.2 c (a.mem h)⟩⟩
  obtain ⟨d, p⟩ := a
  have h := (p.map (·.1)).nodup_iff.mp s.nd
  rw [List.map_append] at h
  exact (List.nodup_append.mp h).1
theorem Sep.fresh (s : Sep T G H L) {p : Addr} (h : H p = none) : G p = none ∧ (∀ c ∈ L, c.1 ≠ p) ∧ ∀ P ∈ T, P ≠ p := by
  refine ⟨s.same.free h, fun c hc e => ?_, fun P hP e => ?_⟩
  · have := (s.at_ c hc).1
    rw [e, h] at this
    cases this
  · obtain ⟨ps, q, _⟩ := (s.tab P hP).1
    rw [e, h] at q
    cases q
theorem same_new {p : Addr} {o : HO} (h : G p = none) : Same G (upd G p o) := fun b x e => by
  rw [upd_ne (ne_of_none e h)]
  exact e
theorem same_upd2 {p : Addr} {o : HO} (s : Same G H) (h : G p = none) : Same G (upd H p o) := fun b x e => by
  rw [upd_ne (ne_of_none e h)]
  exact s _ _ e
theorem tab_upd {P p : Addr} {o : HO} (h : P ≠ p) (t : GxR.TabG H P) : GxR.TabG (upd H p o) P := by
  obtain ⟨ps, q, r⟩ := t
  exact ⟨ps, by rw [upd_ne h]; exact q, r⟩
/-- a new object that stands for ever -/
theorem Sep.frozen (s : Sep T G H L) {p : Addr} {o : HO} (h : H p = none) : Sep T (upd G p o) (upd H p o) L := by
  obtain ⟨g0, l0, t0⟩ := s.fresh h
  refine ⟨s.nd, fun c hc => ?_, fun b x e => ?_, fun P hP => ?_⟩
  · rw [upd_ne (l0 c hc), upd_ne (l0 c hc)]
    exact s.at_ c hc
  · by_cases hb : b = p
    · subst hb
      rw [upd_same] at e ⊢
      exact e
    · rw [upd_ne hb] at e ⊢
      exact s.same _ _ e
  · obtain ⟨a, b, c⟩ := s.tab P hP
    exact ⟨tab_upd (t0 P hP) a, by rw [upd_ne (t0 P hP)]; exact b, c⟩
/-- a new object that is owned -/
theorem Sep.owned (s : Sep T G H L) {p : Addr} {o : HO} (h : H p = none) : Sep T G (upd H p o) ((p, o) :: L) := by
  obtain ⟨g0, l0, t0⟩ := s.fresh h
  refine ⟨?_, fun c hc => ?_, same_upd2 s.same g0, fun P hP => ?_⟩
  · rw [List.map_cons, List.nodup_cons]
    refine ⟨fun hm => ?_, s.nd⟩
    obtain ⟨c, hc, e⟩ := List.mem_map.mp hm
    exact l0 c hc e
  · rcases List.mem_cons.mp hc with e | hc
    · subst e
      exact ⟨upd_same, g0⟩
    · rw [upd_ne (l0 c hc)]
      exact s.at_ c hc
  · obtain ⟨a, b, c⟩ := s.tab P hP
    refine ⟨tab_upd (t0 P hP) a, b, fun c' hc => ?_⟩
    rcases List.mem_cons.mp hc with e | hc
    · subst e
      exact (t0 P hP).symm
    · exact c c' hc
/-- an owned object changed -/
theorem Sep.change {p : Addr} {o o' : HO} (s : Sep T G H ((p, o) :: L)) : Sep T G (upd H p o') ((p, o') :: L) := by
  have nd := s.nd
  rw [List.map_cons, List.nodup_cons] at nd
  have hne : ∀ c ∈ L, c.1 ≠ p := fun c hc e => nd.1 (List.mem_map.mpr ⟨c, hc, e⟩)
  obtain ⟨_, g0⟩ := s.at_ (p, o) List.mem_cons_self
  refine ⟨by rw [List.map_cons, List.nodup_cons]; exact nd, fun c hc => ?_, same_upd2 s.same g0, fun P hP => ?_⟩
  · rcases List.mem_cons.mp hc with e | hc
    · subst e
      exact ⟨upd_same, g0⟩
    · rw [upd_ne (hne c hc)]
      exact s.at_ c (List.mem_cons_of_mem _ hc)
  · obtain ⟨a, b, c⟩ := s.tab P hP
    have hp : P ≠ p := (c _ List.mem_cons_self).symm
    refine ⟨tab_upd hp a, b, fun c' hc => ?_⟩
    rcases List.mem_cons.mp hc with e | hc
    · subst e
      exact hp.symm
    · exact c c' (List.mem_cons_of_mem _ hc)
/-- an owned object is known from now on -/
theorem Sep.freeze {p : Addr} {o : HO} (s : Sep T G H ((p, o) :: L)) : Sep T (upd G p o) H L ∧ Same G (upd G p o) := by
  have nd := s.nd
  rw [List.map_cons, List.nodup_cons] at nd
  have hne : ∀ c ∈ L, c.1 ≠ p := fun c hc e => nd.1 (List.mem_map.mpr ⟨c, hc, e⟩)
  obtain ⟨h0, g0⟩ := s.at_ (p, o) List.mem_cons_self
  refine ⟨⟨nd.2, fun c hc => ?_, fun b x e => ?_, fun P hP => ?_⟩, same_new g0⟩
  · rw [upd_ne (hne c hc)]
    exact s.at_ c (List.mem_cons_of_mem _ hc)
  · by_cases hb : b = p
    · subst hb
      rw [upd_same] at e
      rw [← e]
      exact h0
    · rw [upd_ne hb] at e
      exact s.same _ _ e
  · obtain ⟨a, b, c⟩ := s.tab P hP
    have hp : P ≠ p := (c _ List.mem_cons_self).symm
    exact ⟨a, by rw [upd_ne hp]; exact b, fun c' hc => c c' (List.mem_cons_of_mem _ hc)⟩

theorem kvr_mono (e : Same G G') {kvs : List (D × D)} {ks : List (Key × V)} (h : KVr K G kvs ks) : KVr K G' kvs ks := Paired.mapP h fun _ _ z => ⟨z.1, dp_mono e _ _ z.2⟩
theorem ot_mono (e : Same G G') {o : O} {v : V} {c : List Cell} (h : OT K G o v c) : OT K G' o v c := by
  cases h with
  | d h => exact .d (dp_mono e _ _ h)
  | l h => exact .l (dps_mono e _ _ h)
  | m h => exact .m (kvr_mono e h)
theorem rel_mono (e : Same G G') {ev : Ev} {σ : St} (h : RelS K G ev σ L) : RelS K G' ev σ L := by
  induction h with
  | nil => exact .nil
  | none _ ih => exact .none ih
  | some h _ ih => exact .some (ot_mono e h) ih
theorem rel_len {ev : Ev} {σ : St} (h : RelS K G ev σ L) : ev.length = σ.length := by
  induction h with
  | nil => rfl
  | none _ ih => simp [ih]
  | some _ _ ih => simp [ih]
theorem slot_nil {j : Nat} : slot [] j = none := by simp [slot]
theorem slot_zero {x : Option O} {e : Ev} : slot (x :: e) 0 = x := by simp [slot]
theorem slot_succ {x : Option O} {e : Ev} {j : Nat} : slot (x :: e) (j + 1) = slot e j := by simp [slot]
theorem rel_get {ev : Ev} {σ : St} (h : RelS K G ev σ L) : ∀ {j : Nat} {o : O}, slot ev j = some o → ∃ v c, σ[j]? = some (some v) ∧ OT K G o v c ∧ ∀ x ∈ c, x ∈ L := by
  induction h with
  | nil => intro j o e; rw [slot_nil] at e; cases e
  | none _ ih =>
    intro j o e
    cases j with
    | zero => rw [slot_zero] at e; cases e
    | succ j =>
      rw [slot_succ] at e
      obtain ⟨v, c, a, b, d⟩ := ih e
      exact ⟨v, c, by simpa using a, b, d⟩
  | some h _ ih =>
    intro j o e
    cases j with
    | zero =>
      rw [slot_zero] at e
      cases e
      exact ⟨_, _, rfl, h, fun x hx => List.mem_append_left _ hx⟩
    | succ j =>
      rw [slot_succ] at e
      obtain ⟨v, c, a, b, d⟩ := ih e
      exact ⟨v, c, by simpa using a, b, fun x hx => List.mem_append_right _ (d x hx)⟩
/-- a slot's value taken out -/
theorem rel_take {ev : Ev} {σ : St} (h : RelS K G ev σ L) : ∀ {j : Nat} {o : O}, slot ev j = some o → ∃ v c Lr, σ[j]? = some (some v) ∧ OT K G o v c ∧ L.Perm (c ++ Lr) ∧ RelS K G (ev.set j none) σ Lr := by
  induction h with
  | nil => intro j o e; rw [slot_nil] at e; cases e
  | none h ih =>
    intro j o e
    cases j with
    | zero => rw [slot_zero] at e; cases e
    | succ j =>
      rw [slot_succ] at e
      obtain ⟨v, c, Lr, a, b, d, f⟩ := ih e
      exact ⟨v, c, Lr, by simpa using a, b, d, .none f⟩
  | @some o' v' c' e' σ' L' h hr ih =>
    intro j o e
    cases j with
    | zero =>
      rw [slot_zero] at e
      cases e
      exact ⟨_, _, _, rfl, h, .refl _, .none hr⟩
    | succ j =>
      rw [slot_succ] at e
      obtain ⟨v, c, Lr, a, b, d, f⟩ := ih e
      refine ⟨v, c, c' ++ Lr, by simpa using a, b, ?_, .some h f⟩
      refine (d.append_left c').trans ?_
      rw [← List.append_assoc, ← List.append_assoc]
      exact (List.perm_append_comm).append_right Lr
/-- a slot forgotten, its value whatever -/
theorem rel_none {ev : Ev} {σ : St} (h : RelS K G ev σ L) : ∀ (j : Nat) (x : Option V), ∃ L', RelS K G (ev.set j none) (σ.set j x) L' ∧ Sub L' L := by
  induction h with
  | nil => intro j x; exact ⟨[], .nil, .refl⟩
  | none h ih =>
    intro j x
    cases j with
    | zero => exact ⟨_, .none h, .refl⟩
    | succ j =>
      obtain ⟨L', a, b⟩ := ih j x
      exact ⟨L', .none a, b⟩
  | @some o' v' c' e' σ' L' h hr ih =>
    intro j x
    cases j with
    | zero => exact ⟨_, .none hr, .drop⟩
    | succ j =>
      obtain ⟨L'', a, b⟩ := ih j x
      exact ⟨c' ++ L'', .some h a, b.left⟩
/-- .. the slot itself as it is -/
theorem rel_forget {ev : Ev} {σ : St} (h : RelS K G ev σ L) : ∀ (j : Nat), ∃ L', RelS K G (ev.set j none) σ L' ∧ Sub L' L := by
  induction h with
  | nil => intro j; exact ⟨[], .nil, .refl⟩
  | none h ih =>
    intro j
    cases j with
    | zero => exact ⟨_, .none h, .refl⟩
    | succ j =>
      obtain ⟨L', a, b⟩ := ih j
      exact ⟨L', .none a, b⟩
  | @some o' v' c' e' σ' L' h hr ih =>
    intro j
    cases j with
    | zero => exact ⟨_, .none hr, .drop⟩
    | succ j =>
      obtain ⟨L'', a, b⟩ := ih j
      exact ⟨c' ++ L'', .some h a, b.left⟩
/-- a value laid into a slot -/
theorem rel_put {ev : Ev} {σ : St} (h : RelS K G ev σ L) : ∀ {j : Nat} {o : O} {v : V} {c : List Cell}, OT K G o v c → ∃ L', RelS K G (ev.set j (some o)) (σ.set j (some v)) L' ∧ Sub L' (c ++ L) := by
  induction h with
  | nil => intro j o v c z; exact ⟨[], .nil, ⟨c, by simp⟩⟩
  | none h ih =>
    intro j o v c z
    cases j with
    | zero => exact ⟨_, .some z h, .refl⟩
    | succ j =>
      obtain ⟨L', a, b⟩ := ih (j := j) z
      exact ⟨L', .none a, b⟩
  | @some o' v' c' e' σ' L' h hr ih =>
    intro j o v c z
    cases j with
    | zero => exact ⟨_, .some z hr, (Sub.drop (L := L') (Lx := c')).left⟩
    | succ j =>
      obtain ⟨L'', a, b⟩ := ih (j := j) z
      refine ⟨c' ++ L'', .some h a, Sub.trans (Sub.perm ?_) b.left⟩
      rw [← List.append_assoc, ← List.append_assoc]
      exact (List.perm_append_comm).append_right L'
/-- a value laid into a slot that stands there -/
theorem rel_put_at {ev : Ev} {σ : St} (h : RelS K G ev σ L) : ∀ {j : Nat} {o : O} {v : V} {c : List Cell}, slot ev j = none → σ[j]? = some (some v) → OT K G o v c → ∃ L', RelS K G (ev.set j (some o)) σ L' ∧ L'.Perm (c ++ L) := by
  induction h with
  | nil => intro j o v c _ e; simp at e
  | none h ih =>
    intro j o v c e1 e2 z
    cases j with
    | zero =>
      simp at e2
      subst e2
      exact ⟨_, .some z h, .refl _⟩
    | succ j =>
      rw [slot_succ] at e1
      obtain ⟨L', a, b⟩ := ih (j := j) e1 (by simpa using e2) z
      exact ⟨L', .none a, b⟩
  | @some o' v' c' e' σ' L' h hr ih =>
    intro j o v c e1 e2 z
    cases j with
    | zero => rw [slot_zero] at e1; cases e1
    | succ j =>
      rw [slot_succ] at e1
      obtain ⟨L'', a, b⟩ := ih (j := j) e1 (by simpa using e2) z
      refine ⟨c' ++ L'', .some h a, (b.append_left c').trans ?_⟩
      rw [← List.append_assoc, ← List.append_assoc]
      exact (List.perm_append_comm).append_right L'
end
end Sh

/-! Shift layer 3: the judgements and the rules of expressions. -/
namespace Sh
open PySem PySem.Spec PyProof.Rows L2

theorem Sep.comm3 {T : List Addr} {G H : Hp} {A B C : List Cell} (s : Sep T G H (A ++ (B ++ C))) : Sep T G H (B ++ (A ++ C)) := s.sub (.perm (List.perm_append_comm_assoc A B C))
theorem Sep.tail {T : List Addr} {G H : Hp} {A B : List Cell} (s : Sep T G H (A ++ B)) : Sep T G H B := s.sub .drop

/-- a value and the state behind an expression -/
def PostE (X : Cx) (T : List Addr) (Lx : List Cell) (G : Hp) (σ : St) (o : O) (env' : Ev) (Q : VK) : Prop :=
  ∀ (G' : Hp) (v : V) (H' : Hp) (L' Lo : List Cell), Same G G' → OT X.K G' o v Lo → RelS X.K G' env' σ L' → Sep T G' H' (Lo ++ (L' ++ Lx)) → Q v H'
def EV (X : Cx) (T : List Addr) (e : Expr) (f : Ex) : Prop := ∃ t : TE, PE X e t ∧ ∀ (env : Ev) (o : O) (env' : Ev), f env = some (o, env') → ∀ (G : Hp) (σ : St) (H : Hp) (L Lx : List Cell), RelS X.K G env σ L → Sep T G H (L ++ Lx) →
  ∀ Q : VK, PostE X T Lx G σ o env' Q → t σ H Q
/-- a test -/
def PostB (X : Cx) (T : List Addr) (Lx : List Cell) (G : Hp) (σ : St) (k : Bool) (env' : Ev) (Q : Bool → Hp → Prop) : Prop :=
  ∀ (G' : Hp) (H' : Hp) (L' : List Cell), Same G G' → RelS X.K G' env' σ L' → Sep T G' H' (L' ++ Lx) → Q k H'
def BImp (X : Cx) (T : List Addr) (f : ExB) (t : TT) : Prop := ∀ (env : Ev) (k : Bool) (env' : Ev), f env = some (k, env') → ∀ (G : Hp) (σ : St) (H : Hp) (L Lx : List Cell), RelS X.K G env σ L → Sep T G H (L ++ Lx) →
  ∀ Q : Bool → Hp → Prop, PostB X T Lx G σ k env' Q → t σ H Q
def BV (X : Cx) (T : List Addr) (e : Expr) (f : ExB) : Prop := ∃ t : TT, PT X e t ∧ BImp X T f t
def BW (X : Cx) (T : List Addr) (e : Expr) (f : ExB) : Prop := ∃ t : TT, PW X e t ∧ BImp X T f t
theorem BW.bv {X : Cx} {T : List Addr} {e : Expr} {f : ExB} (h : BW X T e f) : BV X T e f := let ⟨t, a, b⟩ := h; ⟨t, a.pt, b⟩
/-- an operand: a value, or what a slot holds when it is used -/
def VW (K : PySem.W.Frag) (G : Hp) (σ : St) : O ⊕ Nat → V → List Cell → Prop
  | .inl o, v, c => OT K G o v c
  | .inr j, v, c => σ[j]? = some (some v) ∧ c = []
def OV (X : Cx) (T : List Addr) (e : Expr) (f : ExP) : Prop := ∃ t : TE, PE X e t ∧ ∀ (env : Ev) (r : O ⊕ Nat) (env' : Ev), f env = some (r, env') → ∀ (G : Hp) (σ : St) (H : Hp) (L Lx : List Cell), RelS X.K G env σ L → Sep T G H (L ++ Lx) →
  ∀ Q : VK, (∀ (G' : Hp) (v : V) (H' : Hp) (L' Lo : List Cell), Same G G' → VW X.K G' σ r v Lo → RelS X.K G' env' σ L' → Sep T G' H' (Lo ++ (L' ++ Lx)) → Q v H') → t σ H Q
theorem VW.mono {K : PySem.W.Frag} {G G' : Hp} {σ : St} {r : O ⊕ Nat} {v : V} {c : List Cell} (e : Same G G') (h : VW K G σ r v c) : VW K G' σ r v c := by
  cases r with
  | inl o => exact ot_mono e h
  | inr j => exact h
theorem res_of {K : PySem.W.Frag} {G : Hp} {σ : St} {r : O ⊕ Nat} {v : V} {c L : List Cell} {env : Ev} {o : O} (h : VW K G σ r v c) (hr : RelS K G env σ L) (e : res env r = some o) : ∃ c', OT K G o v c' ∧ ∀ x ∈ c', x ∈ c ++ L := by
  cases r with
  | inl o' =>
    cases e
    exact ⟨c, h, fun x hx => List.mem_append_left _ hx⟩
  | inr j =>
    obtain ⟨h1, rfl⟩ := h
    obtain ⟨v', c', a, b, d⟩ := rel_get hr (show slot env j = some o from e)
    rw [h1] at a
    cases a
    exact ⟨c', b, fun x hx => List.mem_append_right _ (d x hx)⟩

/-! ### operations by values -/
def can2 (X : Cx) (f : Value → Value → Sem Value) : R2 := fun x y H Q => ∀ (pins : List (Addr × Obj)) (s : Shared) (σ : St) (v u : Value), Inv X pins σ H s → RelV x v → RelV y u → wpAny (model X.prog X.w) X.A (f v u) (L2.EP X pins σ Q) X.xe s
theorem can2_ok {X : Cx} {f : Value → Value → Sem Value} : OpR X f (can2 X f) := fun pins s σ H x y v u Q I rx ry h => h pins s σ v u I rx ry
def can1 (X : Cx) (f : Value → Sem Value) : V → Hp → VK → Prop := fun x H Q => ∀ (pins : List (Addr × Obj)) (s : Shared) (σ : St) (v : Value), Inv X pins σ H s → RelV x v → wpAny (model X.prog X.w) X.A (f v) (L2.EP X pins σ Q) X.xe s
theorem can1_ok {X : Cx} {f : Value → Sem Value} : UnR X f (can1 X f) := fun pins s σ H x v Q I rx h => h pins s σ v I rx
/-- f gives of x, y what g says -/
def Op2 (X : Cx) (T : List Addr) (r : R2) (g : O → O → Option O) : Prop := ∀ (G H : Hp) (L : List Cell) (x y z : O) (vx vy : V) (cx cy : List Cell), OT X.K G x vx cx → OT X.K G y vy cy → (∀ c ∈ cx, c ∈ L) → (∀ c ∈ cy, c ∈ L) → Sep T G H L → g x y = some z →
  ∀ Q : VK, (∀ (G' : Hp) (vz : V) (H' : Hp) (Lz : List Cell), Same G G' → OT X.K G' z vz Lz → Sep T G' H' (Lz ++ L) → Q vz H') → r vx vy H Q
def Op1 (X : Cx) (T : List Addr) (r : V → Hp → VK → Prop) (g : O → Option O) : Prop := ∀ (G H : Hp) (L : List Cell) (x z : O) (vx : V) (cx : List Cell), OT X.K G x vx cx → (∀ c ∈ cx, c ∈ L) → Sep T G H L → g x = some z →
  ∀ Q : VK, (∀ (G' : Hp) (vz : V) (H' : Hp) (Lz : List Cell), Same G G' → OT X.K G' z vz Lz → Sep T G' H' (Lz ++ L) → Q vz H') → r vx H Q
section
variable {X : Cx} {T : List Addr} {a b c e : Expr} {pos : Pos}
theorem bind_eq {α β : Type} {x : Option α} {f : α → Option β} {b : β} (h : x.bind f = some b) : ∃ a, x = some a ∧ f a = some b := by
  cases x with
  | none => cases h
  | some a => exact ⟨a, rfl, h⟩
theorem sub_tail2 {A B C D' E : List Cell} : Sub (E ++ (B ++ D')) (E ++ (A ++ (B ++ (C ++ D')))) := (Sub.trans .drop (Sub.left .drop)).left
/-- the two operands, then f -/
theorem ov2 {fa fb : ExP} {ta tb : TE} (ha : ∀ (env : Ev) (r : O ⊕ Nat) (env' : Ev), fa env = some (r, env') → ∀ (G : Hp) (σ : St) (H : Hp) (L Lx : List Cell), RelS X.K G env σ L → Sep T G H (L ++ Lx) →
    ∀ Q : VK, (∀ (G' : Hp) (v : V) (H' : Hp) (L' Lo : List Cell), Same G G' → VW X.K G' σ r v Lo → RelS X.K G' env' σ L' → Sep T G' H' (Lo ++ (L' ++ Lx)) → Q v H') → ta σ H Q)
    (hb : ∀ (env : Ev) (r : O ⊕ Nat) (env' : Ev), fb env = some (r, env') → ∀ (G : Hp) (σ : St) (H : Hp) (L Lx : List Cell), RelS X.K G env σ L → Sep T G H (L ++ Lx) →
    ∀ Q : VK, (∀ (G' : Hp) (v : V) (H' : Hp) (L' Lo : List Cell), Same G G' → VW X.K G' σ r v Lo → RelS X.K G' env' σ L' → Sep T G' H' (Lo ++ (L' ++ Lx)) → Q v H') → tb σ H Q)
    {env env1 env2 : Ev} {r1 r2 : O ⊕ Nat} {x y : O} (e1 : fa env = some (r1, env1)) (e2 : fb env1 = some (r2, env2)) (ex : res env2 r1 = some x) (ey : res env2 r2 = some y)
    {G : Hp} {σ : St} {H : Hp} {L Lx : List Cell} (hR : RelS X.K G env σ L) (hS : Sep T G H (L ++ Lx)) {R : V → V → Hp → Prop}
    (h : ∀ (G2 : Hp) (vx vy : V) (H2 : Hp) (L2 Lw cx cy : List Cell), Same G G2 → OT X.K G2 x vx cx → OT X.K G2 y vy cy → (∀ c ∈ cx, c ∈ Lw) → (∀ c ∈ cy, c ∈ Lw) → RelS X.K G2 env2 σ L2 → Sep T G2 H2 Lw → (∀ E, Sub (E ++ (L2 ++ Lx)) (E ++ Lw)) → R vx vy H2) :
    ta σ H fun vx H1 => tb σ H1 fun vy H2 => R vx vy H2 := by
  refine ha env r1 env1 e1 G σ H L Lx hR hS _ fun G1 v1 H1 L1 Lo1 s1 o1 R1 S1 => ?_
  refine hb env1 r2 env2 e2 G1 σ H1 L1 (Lo1 ++ Lx) R1 S1.comm3 _ fun G2 v2 H2 L2 Lo2 s2 o2 R2 S2 => ?_
  obtain ⟨cx, ox, mx⟩ := res_of (o1.mono s2) R2 ex
  obtain ⟨cy, oy, my⟩ := res_of o2 R2 ey
  refine h G2 v1 v2 H2 L2 _ cx cy (s1.trans s2) ox oy (fun c hc => ?_) (fun c hc => ?_) R2 S2 fun E => sub_tail2
  · rcases List.mem_append.mp (mx c hc) with q | q
    · exact List.mem_append_right _ (List.mem_append_right _ (List.mem_append_left _ q))
    · exact List.mem_append_right _ (List.mem_append_left _ q)
  · rcases List.mem_append.mp (my c hc) with q | q
    · exact List.mem_append_left _ q
    · exact List.mem_append_right _ (List.mem_append_left _ q)
theorem eOp2_eq {g : O → O → Option O} {fa fb : ExP} {env env' : Ev} {o : O} (h : eOp2 g fa fb env = some (o, env')) : ∃ r1 env1 r2 x y, fa env = some (r1, env1) ∧ fb env1 = some (r2, env') ∧ res env' r1 = some x ∧ res env' r2 = some y ∧ g x y = some o := by
  unfold eOp2 at h
  obtain ⟨⟨r1, env1⟩, e1, h⟩ := bind_eq h
  obtain ⟨⟨r2, env2⟩, e2, h⟩ := bind_eq h
  obtain ⟨x, e3, h⟩ := bind_eq h
  obtain ⟨y, e4, h⟩ := bind_eq h
  obtain ⟨z, e5, h⟩ := bind_eq h
  cases h
  exact ⟨r1, env1, r2, x, y, e1, e2, e3, e4, e5⟩
theorem bOp2_eq {g : O → O → Option Bool} {fa fb : ExP} {env env' : Ev} {o : Bool} (h : bOp2 g fa fb env = some (o, env')) : ∃ r1 env1 r2 x y, fa env = some (r1, env1) ∧ fb env1 = some (r2, env') ∧ res env' r1 = some x ∧ res env' r2 = some y ∧ g x y = some o := by
  unfold bOp2 at h
  obtain ⟨⟨r1, env1⟩, e1, h⟩ := bind_eq h
  obtain ⟨⟨r2, env2⟩, e2, h⟩ := bind_eq h
  obtain ⟨x, e3, h⟩ := bind_eq h
  obtain ⟨y, e4, h⟩ := bind_eq h
  obtain ⟨z, e5, h⟩ := bind_eq h
  cases h
  exact ⟨r1, env1, r2, x, y, e1, e2, e3, e4, e5⟩
theorem eOp1_eq {g : O → Option O} {fa : ExP} {env env' : Ev} {o : O} (h : eOp1 g fa env = some (o, env')) : ∃ r1 x, fa env = some (r1, env') ∧ res env' r1 = some x ∧ g x = some o := by
  unfold eOp1 at h
  obtain ⟨⟨r1, env1⟩, e1, h⟩ := bind_eq h
  obtain ⟨x, e3, h⟩ := bind_eq h
  obtain ⟨z, e5, h⟩ := bind_eq h
  cases h
  exact ⟨r1, x, e1, e3, e5⟩
/-- a reading of two operands that goes by Op2 -/
theorem ev_of2 {fa fb : ExP} {r : R2} {g : O → O → Option O} (hg : Op2 X T r g) (ha : OV X T a fa) (hb : OV X T b fb) (hp : ∀ {ta tb : TE}, PE X a ta → PE X b tb → PE X e (tOp r ta tb)) : EV X T e (eOp2 g fa fb) := by
  obtain ⟨ta, pa, ha⟩ := ha
  obtain ⟨tb, pb, hb⟩ := hb
  refine ⟨_, hp pa pb, fun env o env' hf G σ H L Lx hR hS Q hQ => ?_⟩
  obtain ⟨r1, env1, r2, x, y, e1, e2, ex, ey, ez⟩ := eOp2_eq hf
  refine ov2 ha hb e1 e2 ex ey hR hS fun G2 vx vy H2 L2 Lw cx cy s2 ox oy mx my R2 S2 sub => ?_
  exact hg G2 H2 Lw x y o vx vy cx cy ox oy mx my S2 ez Q fun G3 vz H3 Lz s3 oz S3 => hQ G3 vz H3 L2 Lz (s2.trans s3) oz (rel_mono s3 R2) (S3.sub (sub Lz))
theorem ev_of1 {fa : ExP} {r : V → Hp → VK → Prop} {g : O → Option O} (hg : Op1 X T r g) (ha : OV X T a fa) (hp : ∀ {ta : TE}, PE X a ta → PE X e (tUn r ta)) : EV X T e (eOp1 g fa) := by
  obtain ⟨ta, pa, ha⟩ := ha
  refine ⟨_, hp pa, fun env o env' hf G σ H L Lx hR hS Q hQ => ?_⟩
  obtain ⟨r1, x, e1, ex, ez⟩ := eOp1_eq hf
  refine ha env r1 env' e1 G σ H L Lx hR hS _ fun G1 v1 H1 L1 Lo1 s1 o1 R1 S1 => ?_
  obtain ⟨cx, ox, mx⟩ := res_of o1 R1 ex
  refine hg G1 H1 _ x o v1 cx ox (fun c hc => ?_) S1 ez Q fun G3 vz H3 Lz s3 oz S3 => hQ G3 vz H3 L1 Lz (s1.trans s3) oz (rel_mono s3 R1) (S3.sub (Sub.left .drop))
  rcases List.mem_append.mp (mx c hc) with q | q
  · exact List.mem_append_left _ q
  · exact List.mem_append_right _ (List.mem_append_left _ q)

/-! ### names and constants -/
theorem ov_e {f : Ex} (h : EV X T e f) : OV X T e (pV f) := by
  obtain ⟨t, p, h⟩ := h
  refine ⟨t, p, fun env r env' hf G σ H L Lx hR hS Q hQ => ?_⟩
  unfold pV at hf
  obtain ⟨⟨o, env1⟩, e1, hf⟩ := bind_eq hf
  cases hf
  exact h env o env1 e1 G σ H L Lx hR hS Q fun G' v H' L' Lo s o R S => hQ G' v H' L' Lo s o R S
theorem ov_s {x : Str} (j : Nat) (hN : X.N[j]? = some x := by rfl) (hv : Vis X.env.scope x := by first | exact Or.inl rfl | exact Or.inr (Or.inl rfl) | exact Or.inr (Or.inr rfl)) (hd : (x == ("__debug__" : Str)) = false := by decide)
    (hcd : (x == ("__classdict__" : Str)) = false := by decide) : OV X T (.Name x pos) (pS j) := by
  refine ⟨tVar j, pe_var hN hv hd hcd, fun env r env' hf G σ H L Lx hR hS Q hQ => ?_⟩
  unfold pS at hf
  obtain ⟨o, h, hf⟩ := bind_eq hf
  cases hf
  obtain ⟨v, c, h1, h2, h3⟩ := rel_get hR h
  exact ⟨v, h1, hQ G v H L [] (.refl _) ⟨h1, rfl⟩ hR hS⟩
theorem ev_var {x : Str} (j : Nat) (hN : X.N[j]? = some x := by rfl) (hv : Vis X.env.scope x := by first | exact Or.inl rfl | exact Or.inr (Or.inl rfl) | exact Or.inr (Or.inr rfl)) (hd : (x == ("__debug__" : Str)) = false := by decide)
    (hcd : (x == ("__classdict__" : Str)) = false := by decide) : EV X T (.Name x pos) (eVar j) := by
  refine ⟨tVar j, pe_var hN hv hd hcd, fun env o env' hf G σ H L Lx hR hS Q hQ => ?_⟩
  unfold eVar at hf
  split at hf
  · rename_i x h
    cases hf
    obtain ⟨v, c, h1, h2, h3⟩ := rel_get hR h
    cases h2 with
    | d h2 => exact ⟨v, h1, hQ G v H L [] (.refl _) (.d h2) hR hS⟩
  · cases hf
/-- the owned list of a slot, known from now on -/
theorem ev_frz {x : Str} (j : Nat) (hN : X.N[j]? = some x := by rfl) (hv : Vis X.env.scope x := by first | exact Or.inl rfl | exact Or.inr (Or.inl rfl) | exact Or.inr (Or.inr rfl)) (hd : (x == ("__debug__" : Str)) = false := by decide)
    (hcd : (x == ("__classdict__" : Str)) = false := by decide) : EV X T (.Name x pos) (eFrz j) := by
  refine ⟨tVar j, pe_var hN hv hd hcd, fun env o env' hf G σ H L Lx hR hS Q hQ => ?_⟩
  unfold eFrz at hf
  obtain ⟨o', h, hf⟩ := bind_eq hf
  obtain ⟨x, hx, hf⟩ := bind_eq hf
  cases hf
  obtain ⟨v, c, Lr, h1, h2, h3, h4⟩ := rel_take hR h
  refine ⟨v, h1, ?_⟩
  have hn : slot (env.set j none) j = none := by
    unfold slot
    rw [List.getElem?_set]
    split
    · split <;> rfl
    · rename_i hh
      exact absurd rfl hh
  cases h2 with
  | d h2 =>
    cases hx
    obtain ⟨L', a, b⟩ := rel_put_at h4 hn h1 (.d h2)
    rw [List.set_set] at a
    exact hQ G v H L' [] (.refl _) (.d h2) a (hS.sub (Sub.right (.perm (h3.trans b.symm))))
  | @l xs p vs h2 =>
    cases hx
    have S1 : Sep T G H ((p, .lst vs) :: (Lr ++ Lx)) := hS.sub (.perm (by
      have := h3.append_right Lx
      simpa using this))
    obtain ⟨S2, m⟩ := S1.freeze
    have hd' : Dp X.K (upd G p (.lst vs)) (.ref p) (.list xs) := .lst (.inl (.inl upd_same)) (dps_mono m _ _ h2)
    obtain ⟨L', a, b⟩ := rel_put_at (rel_mono m h4) hn h1 (.d hd')
    rw [List.set_set] at a
    exact hQ _ (.ref p) H L' [] m (.d hd') a (S2.sub (Sub.right (.perm (by simpa using b.symm))))
  | m h2 => cases hx
theorem ev_const {x : D} {t : V} (hd : ∀ G, Dp X.K G t x) (h : PE X e (tC t)) : EV X T e (eC x) := by
  refine ⟨_, h, fun env o env' hf G σ H L Lx hR hS Q hQ => ?_⟩
  cases hf
  exact hQ G t H L [] (.refl _) (.d (hd G)) hR hS
theorem ev_int {i j} : EV X T (.Constant (.int i) j pos) (eC (.int i)) := ev_const (fun _ => .int i) pe_int
theorem ev_bl {i j} : EV X T (.Constant (.bool i) j pos) (eC (.bool i)) := ev_const (fun _ => .bl i) pe_bl
theorem ev_non {j} : EV X T (.Constant .none j pos) (eC .none) := ev_const (fun _ => .non) pe_non
theorem ev_str {i j} : EV X T (.Constant (.str i) j pos) (eC (.str i)) := ev_const (fun _ => .str i) pe_str
/-- a module's constant -/
theorem ev_glob {x : Str} {d : D} {v : V} {u : Value} (hm : X.mg x = some u) (r : RelV v u) (hd : ∀ G, Dp X.K G v d) (hg : Gl X x := by rfl) (hdb : (x == ("__debug__" : Str)) = false := by decide) : EV X T (.Name x pos) (eC d) := ev_const hd (pe_glob hg hm r hdb)

/-! ### operators -/
theorem ev_bin {op : Operator} {g : O → O → Option O} {fa fb : ExP} (hg : Op2 X T (can2 X (binaryOp op)) g) (ha : OV X T a fa) (hb : OV X T b fb) : EV X T (.BinOp a op b pos) (eOp2 g fa fb) := ev_of2 hg ha hb fun pa pb => pe_op can2_ok pa pb
theorem ev_un {op : UnaryOp} {g : O → Option O} {fa : ExP} (hg : Op1 X T (can1 X (unaryOp op)) g) (ha : OV X T a fa) : EV X T (.UnaryOp op a pos) (eOp1 g fa) := ev_of1 hg ha fun pa => pe_un can1_ok pa
/-- two ints -/
theorem op2_int {f : Value → Value → Sem Value} {r : R2} {h : Int → Int → Option Int} {g : O → O → Option O} (ho : OpR X f r)
    (hr : ∀ (i j k : Int) (H : Hp) (Q : VK), h i j = some k → Q (.int k) H → r (.int i) (.int j) H Q)
    (hg : ∀ x y z, g x y = some z → ∃ i j k, x = .d (.int i) ∧ y = .d (.int j) ∧ h i j = some k ∧ z = .d (.int k)) : Op2 X T (can2 X f) g := by
  intro G H L x y z vx vy cx cy ox oy mx my S ez Q hQ pins s σ v u I rx ry
  obtain ⟨i, j, k, rfl, rfl, hk, rfl⟩ := hg x y z ez
  cases ox with
  | d ox =>
    cases oy with
    | d oy =>
      cases ox
      cases oy
      exact ho pins s σ H _ _ v u Q I rx ry (hr i j k H Q hk (hQ G _ H [] (.refl _) (.d (.int k)) S))
theorem op2_mk {f : Value → Value → Sem Value} {g : O → O → Option O} (h : ∀ (G H : Hp) (L : List Cell) (x y z : O) (vx vy : V) (cx cy : List Cell), OT X.K G x vx cx → OT X.K G y vy cy → (∀ c ∈ cx, c ∈ L) → (∀ c ∈ cy, c ∈ L) → Sep T G H L → g x y = some z →
  ∃ r, OpR X f r ∧ ∀ Q : VK, (∀ (G' : Hp) (vz : V) (H' : Hp) (Lz : List Cell), Same G G' → OT X.K G' z vz Lz → Sep T G' H' (Lz ++ L) → Q vz H') → r vx vy H Q) : Op2 X T (can2 X f) g := by
  intro G H L x y z vx vy cx cy ox oy mx my S ez Q hQ pins s σ v u I rx ry
  obtain ⟨r, ho, hr⟩ := h G H L x y z vx vy cx cy ox oy mx my S ez
  exact ho pins s σ H vx vy v u Q I rx ry (hr Q hQ)
theorem o2_sub : Op2 X T (can2 X (binaryOp .Sub)) gSub := op2_int (h := fun i j => some (i - j)) op_sub (fun i j k H Q e q => by cases e; exact ⟨i, j, rfl, rfl, q⟩) fun x y z e => by
  unfold gSub at e
  split at e
  · cases e
    exact ⟨_, _, _, rfl, rfl, rfl, rfl⟩
  · cases e
theorem o2_mul : Op2 X T (can2 X (binaryOp .Mult)) gMul := op2_int (h := fun i j => if -(2 ^ 64) < i ∧ i < 2 ^ 64 ∨ -(2 ^ 64) < j ∧ j < 2 ^ 64 then some (i * j) else none) op_mul (fun i j k H Q e q => by
    split at e
    · rename_i hc
      cases e
      exact ⟨i, j, rfl, rfl, hc, q⟩
    · cases e) fun x y z e => by
  unfold gMul at e
  split at e
  · split at e
    · rename_i hc
      cases e
      exact ⟨_, _, _, rfl, rfl, if_pos hc, rfl⟩
    · cases e
  · cases e
theorem o2_div : Op2 X T (can2 X (binaryOp .FloorDiv)) gDiv := op2_int (h := fun i j => if 0 < j ∧ j < 1073741824 then some (i / j) else none) op_fdiv (fun i j k H Q e q => by
    split at e
    · rename_i hc
      cases e
      exact ⟨i, j, rfl, rfl, hc, q⟩
    · cases e) fun x y z e => by
  unfold gDiv at e
  split at e
  · split at e
    · rename_i hc
      cases e
      exact ⟨_, _, _, rfl, rfl, if_pos hc, rfl⟩
    · cases e
  · cases e
theorem o2_mod : Op2 X T (can2 X (binaryOp .Mod)) gMod := op2_int (h := fun i j => if 0 < j then some (i % j) else none) op_mod (fun i j k H Q e q => by
    split at e
    · rename_i hc
      cases e
      exact ⟨i, j, rfl, rfl, hc, q⟩
    · cases e) fun x y z e => by
  unfold gMod at e
  split at e
  · split at e
    · rename_i hc
      cases e
      exact ⟨_, _, _, rfl, rfl, if_pos hc, rfl⟩
    · cases e
  · cases e
theorem o2_pow : Op2 X T (can2 X (binaryOp .Pow)) gPow := op2_int (h := fun i j => if 0 ≤ j ∧ j ≤ 1000000 ∧ i.natAbs < 2 ^ 64 then some (i ^ j.toNat) else none) op_pow (fun i j k H Q e q => by
    split at e
    · rename_i hc
      cases e
      exact ⟨i, j, rfl, rfl, hc, q⟩
    · cases e) fun x y z e => by
  unfold gPow at e
  split at e
  · split at e
    · rename_i hc
      cases e
      exact ⟨_, _, _, rfl, rfl, if_pos hc, rfl⟩
    · cases e
  · cases e
theorem o1_neg : Op1 X T (can1 X (unaryOp .USub)) gNeg := by
  intro G H L x z vx cx ox mx S ez Q hQ pins s σ v I rx
  unfold gNeg at ez
  split at ez
  · rename_i i
    cases ez
    cases ox with
    | d ox =>
      cases ox
      exact un_neg pins s σ H _ v Q I rx ⟨i, rfl, hQ G _ H [] (.refl _) (.d (.int _)) S⟩
  · cases ez
/-- what may be walked or read as a list -/
theorem lst_of {K : PySem.W.Frag} {G H : Hp} {L : List Cell} {o : O} {v : V} {c : List Cell} {xs : List D} (h : OT K G o v c) (m : ∀ x ∈ c, x ∈ L) (S : Sep T G H L) (e : oLst o = some xs) : ∃ p vs, v = .ref p ∧ SqL K H p vs ∧ DpAll K G vs xs := by
  unfold oLst at e
  split at e
  · cases e
    cases h with
    | d h =>
      cases h with
      | lst h hs => exact ⟨_, _, rfl, S.same.seq h, hs⟩
  · cases e
    cases h with
    | l h => exact ⟨_, _, rfl, .inl (.inl (S.at_ _ (m _ List.mem_cons_self)).1), h⟩
  · cases e
theorem seq_of {K : PySem.W.Frag} {G H : Hp} {L : List Cell} {o : O} {v : V} {c : List Cell} {xs : List D} (h : OT K G o v c) (m : ∀ x ∈ c, x ∈ L) (S : Sep T G H L) (e : oSeq o = some xs) : ∃ p vs, v = .ref p ∧ (SqL K H p vs ∨ SqT K H p vs) ∧ DpAll K G vs xs := by
  unfold oSeq at e
  split at e
  · cases e
    cases h with
    | d h =>
      cases h with
      | lst h hs => exact ⟨_, _, rfl, .inl (S.same.seq h), hs⟩
  · cases e
    cases h with
    | d h =>
      cases h with
      | tup h hs => exact ⟨_, _, rfl, .inr (same_sqT S.same h), hs⟩
  · cases e
    cases h with
    | l h => exact ⟨_, _, rfl, .inl (.inl (.inl (S.at_ _ (m _ List.mem_cons_self)).1)), h⟩
  · cases e
/-- xs + ys of lists that are read -/
def rCatS (K : PySem.W.Frag) : R2 := fun x y H Q => ∃ l b xs zs, x = .ref l ∧ y = .ref b ∧ SqL K H l xs ∧ SqL K H b zs ∧ xs.length + zs.length ≤ sizeLine ∧ ∀ p, H p = none → Q (.ref p) (upd H p (.lst (xs ++ zs)))
theorem op_catS : OpR X (binaryOp .Add) (rCatS X.K) := by
  intro pins s σ H x y v u Q I rx ry h
  obtain ⟨l, b, xs, zs, rfl, rfl, hH, hB, hz, q⟩ := h
  cases rx
  cases ry
  obtain ⟨its, r, e, hl⟩ := I.list hH
  obtain ⟨its2, r2, e2, hl2⟩ := I.list hB
  obtain ⟨⟨cls, dd, data, sl⟩, n, ho, hc, hd0, hd⟩ := e
  obtain ⟨⟨cls2, dd2, data2, sl2⟩, n2, ho2, hc2, hd02, hd2⟩ := e2
  simp only at hc hd hc2 hd2
  subst hc hd hc2 hd2
  have l1 := r.length
  have l2 := r2.length
  refine concat_meets ⟨_, ho, rfl⟩ ⟨_, ho2, rfl⟩ noFill_list_add seq_list_add PySem.F.slot_list_add PySem.F.entry_list_add (PySem.F.args_list_add_2 _ _) (list_addW l b its.toArray its2.toArray n n2 dd dd2 sl sl2 (by simp only [List.size_toArray]; omega)) ⟨ho, ho2, ?_⟩
  have ea : its.toArray ++ its2.toArray = (its ++ its2).toArray := by simp
  rw [ea]
  exact ⟨.ref _, _, I.laid (t' := s.toks) (o := .lst (xs ++ zs)) (fun b ob q => Heap.get?_push_of_some _ q) (Nat.le_refl _) ⟨by rw [List.length_append]; exact hz, its ++ its2, 0, r.append r2, Heap.get?_push_size _ rfl⟩, rfl, q _ (I.hok.fresh (Nat.le_refl _))⟩
theorem line_ge : (1000000 : Nat) < sizeLine := by decide
theorem o2_addL {x y z : O} {xs ys : List D} {G H : Hp} {L : List Cell} {vx vy : V} {cx cy : List Cell} (ox : OT X.K G x vx cx) (oy : OT X.K G y vy cy) (mx : ∀ c ∈ cx, c ∈ L) (my : ∀ c ∈ cy, c ∈ L) (S : Sep T G H L)
    (hx : oLst x = some xs) (hy : oLst y = some ys) (hl : xs.length + ys.length ≤ 1000000) :
    ∀ Q : VK, (∀ (G' : Hp) (vz : V) (H' : Hp) (Lz : List Cell), Same G G' → OT X.K G' (.l (xs ++ ys)) vz Lz → Sep T G' H' (Lz ++ L) → Q vz H') → rCatS X.K vx vy H Q := by
  intro Q hQ
  obtain ⟨p, vs, rfl, hp, hs⟩ := lst_of ox mx S hx
  obtain ⟨p2, vs2, rfl, hp2, hs2⟩ := lst_of oy my S hy
  have := line_ge
  refine ⟨p, p2, vs, vs2, rfl, rfl, hp, hp2, by rw [dps_len hs, dps_len hs2]; omega, fun q hq => ?_⟩
  exact hQ G (.ref q) _ _ (.refl _) (.l (dps_app hs hs2)) (S.owned hq)
theorem o2_add : Op2 X T (can2 X (binaryOp .Add)) gAdd := op2_mk fun G H L x y z vx vy cx cy ox oy mx my S e => by
  unfold gAdd at e
  split at e
  · cases e
    cases ox with
    | d ox =>
      cases oy with
      | d oy =>
        cases ox
        cases oy
        exact ⟨_, op_add, fun Q hQ => ⟨_, _, rfl, rfl, hQ G _ H [] (.refl _) (.d (.int _)) S⟩⟩
  · rename_i xs ys
    split at e
    · rename_i hl
      cases e
      cases ox with
      | d ox =>
        cases oy with
        | d oy =>
          cases ox with
          | @tup a vs _ h1 h2 =>
            cases oy with
            | @tup b vs2 _ h3 h4 =>
              have := line_ge
              have e1 := dps_len h2
              have e2 := dps_len h4
              refine ⟨_, op_catA, fun Q hQ => ⟨a, b, vs, vs2, rfl, rfl, same_sqT S.same h1, same_sqT S.same h3, by omega, fun z => ?_, fun _ z => ?_, fun _ _ p hp => ?_⟩⟩
              · subst z
                cases h2
                exact hQ G _ H [] (.refl _) (.d (.tup h3 h4)) S
              · subst z
                cases h4
                rw [List.append_nil] at hQ
                exact hQ G _ H [] (.refl _) (.d (.tup h1 h2)) S
              · have m := same_new (o := .tup (vs ++ vs2)) (S.fresh hp).1
                exact hQ _ _ _ [] m (.d (.tup (.inl (.inl upd_same)) (dps_mono m _ _ (dps_app h2 h4)))) (S.frozen hp)
    · cases e
  · obtain ⟨xs, hx, e⟩ := bind_eq e
    obtain ⟨ys, hy, e⟩ := bind_eq e
    split at e
    · rename_i hl
      cases e
      exact ⟨_, op_catS, o2_addL (z := .l (xs ++ ys)) ox oy mx my S hx hy hl⟩
    · cases e

/-! ### comparisons -/
/-- what a comparison gives -/
def Cmp2 (X : Cx) (T : List Addr) (op : CmpOp) (g : O → O → Option Bool) : Prop := ∀ (G H : Hp) (L : List Cell) (x y : O) (k : Bool) (vx vy : V) (cx cy : List Cell), OT X.K G x vx cx → OT X.K G y vy cy → (∀ c ∈ cx, c ∈ L) → (∀ c ∈ cy, c ∈ L) → Sep T G H L → g x y = some k →
  ∃ r, OpR X (compareOp op) r ∧ ∀ Q : VK, Q (.bl k) H → r vx vy H Q
theorem Cmp2.op {op : CmpOp} {g : O → O → Option Bool} (h : Cmp2 X T op g) : Op2 X T (can2 X (compareOp op)) (gB g) := op2_mk fun G H L x y z vx vy cx cy ox oy mx my S e => by
  unfold gB at e
  obtain ⟨k, ek, e⟩ := bind_eq e
  cases e
  obtain ⟨r, ho, hr⟩ := h G H L x y k vx vy cx cy ox oy mx my S ek
  exact ⟨r, ho, fun Q hQ => hr Q (hQ G _ H [] (.refl _) (.d (.bl k)) S)⟩
theorem Cmp2.can {op : CmpOp} {g : O → O → Option Bool} (h : Cmp2 X T op g) {G H : Hp} {L : List Cell} {x y : O} {k : Bool} {vx vy : V} {cx cy : List Cell} (ox : OT X.K G x vx cx) (oy : OT X.K G y vy cy) (mx : ∀ c ∈ cx, c ∈ L) (my : ∀ c ∈ cy, c ∈ L) (S : Sep T G H L)
    (e : g x y = some k) {Q : VK} (q : Q (.bl k) H) : can2 X (compareOp op) vx vy H Q := by
  intro pins s σ v u I rx ry
  obtain ⟨r, ho, hr⟩ := h G H L x y k vx vy cx cy ox oy mx my S e
  exact ho pins s σ H vx vy v u Q I rx ry (hr Q q)
theorem ev_cmp {op : CmpOp} {g : O → O → Option Bool} {fa fb : ExP} (hg : Cmp2 X T op g) (ha : OV X T a fa) (hb : OV X T b fb) (hm : behindInMarks op b = false := by rfl) : EV X T (.Compare a [op] [b] pos) (eOp2 (gB g) fa fb) := ev_of2 hg.op ha hb fun pa pb => pe_cmpR can2_ok pa pb hm
theorem bv_cmp {op : CmpOp} {g : O → O → Option Bool} {fa fb : ExP} (hg : Cmp2 X T op g) (ha : OV X T a fa) (hb : OV X T b fb) (hm : behindInMarks op b = false := by rfl) : BV X T (.Compare a [op] [b] pos) (bOp2 g fa fb) := by
  obtain ⟨ta, pa, ha⟩ := ha
  obtain ⟨tb, pb, hb⟩ := hb
  refine ⟨_, pt_cmpR can2_ok pa pb hm, fun env k env' hf G σ H L Lx hR hS Q hQ => ?_⟩
  obtain ⟨r1, env1, r2, x, y, e1, e2, ex, ey, ez⟩ := bOp2_eq hf
  refine ov2 ha hb e1 e2 ex ey hR hS fun G2 vx vy H2 L2 Lw cx cy s2 ox oy mx my R2 S2 sub => ?_
  exact hg.can ox oy mx my S2 ez ⟨k, rfl, hQ G2 H2 L2 s2 R2 (S2.sub (sub []))⟩
theorem c2_int {op : CmpOp} {g : O → O → Option Bool} {r : R2} {h : Int → Int → Bool} (ho : OpR X (compareOp op) r) (hr : ∀ (i j : Int) (H : Hp) (Q : VK), Q (.bl (h i j)) H → r (.int i) (.int j) H Q)
    (hg : ∀ x y k, g x y = some k → ∃ i j, x = .d (.int i) ∧ y = .d (.int j) ∧ k = h i j) : Cmp2 X T op g := by
  intro G H L x y k vx vy cx cy ox oy mx my S e
  obtain ⟨i, j, rfl, rfl, rfl⟩ := hg x y k e
  cases ox with
  | d ox =>
    cases oy with
    | d oy =>
      cases ox
      cases oy
      exact ⟨r, ho, fun Q q => hr i j H Q q⟩
theorem ints_dps {K : PySem.W.Frag} {G : Hp} : ∀ {xs : List D} {ns : List Int} {vs : List V}, intsOf xs = some ns → DpAll K G vs xs → vs = ns.map V.int
  | [], _, _, e, h => by
    cases e
    cases h
    rfl
  | .int i :: r, ns, vs, e, h => by
    unfold intsOf at e
    obtain ⟨ms, e1, e2⟩ := bind_eq e
    cases e2
    cases h with
    | cons h hs =>
      cases h
      rw [ints_dps e1 hs]
      rfl
  | .none :: _, _, _, e, _ => by simp [intsOf] at e
  | .bool _ :: _, _, _, e, _ => by simp [intsOf] at e
  | .str _ :: _, _, _, e, _ => by simp [intsOf] at e
  | .list _ :: _, _, _, e, _ => by simp [intsOf] at e
  | .tuple _ :: _, _, _, e, _ => by simp [intsOf] at e
  | .dict _ :: _, _, _, e, _ => by simp [intsOf] at e
theorem c2_lt {k : Nat} (hr : Room k X.A) : Cmp2 X T .Lt gLt := by
  intro G H L x y k vx vy cx cy ox oy mx my S e
  unfold gLt at e
  split at e
  · cases e
    cases ox with
    | d ox =>
      cases oy with
      | d oy =>
        cases ox
        cases oy
        exact ⟨_, op_lt, fun Q q => ⟨_, _, rfl, rfl, q⟩⟩
  · obtain ⟨ns, e1, e⟩ := bind_eq e
    obtain ⟨ms, e2, e⟩ := bind_eq e
    cases e
    cases ox with
    | d ox =>
      cases oy with
      | d oy =>
        cases ox with
        | tup h1 h2 =>
          cases oy with
          | tup h3 h4 =>
            have i1 := ints_dps e1 h2
            have i2 := ints_dps e2 h4
            subst i1 i2
            exact ⟨_, op_ltT hr.units0, fun Q q => ⟨_, _, ns, ms, rfl, rfl, same_sqT S.same h1, same_sqT S.same h3, q⟩⟩
  · cases e
theorem c2_le : Cmp2 X T .LtE gLe := c2_int op_le (fun i j H Q q => ⟨i, j, rfl, rfl, q⟩) fun x y k e => by
  unfold gLe at e
  split at e
  · cases e
    exact ⟨_, _, rfl, rfl, rfl⟩
  · cases e
theorem c2_ge : Cmp2 X T .GtE gGe := c2_int op_ge (fun i j H Q q => ⟨i, j, rfl, rfl, q⟩) fun x y k e => by
  unfold gGe at e
  split at e
  · cases e
    exact ⟨_, _, rfl, rfl, rfl⟩
  · cases e
theorem c2_gt : Cmp2 X T .Gt gGt := c2_int op_gt (fun i j H Q q => ⟨i, j, rfl, rfl, q⟩) fun x y k e => by
  unfold gGt at e
  split at e
  · cases e
    exact ⟨_, _, rfl, rfl, rfl⟩
  · cases e
/-- data that is read -/
theorem dat_of {K : PySem.W.Frag} {G H : Hp} {L : List Cell} {o : O} {v : V} {c : List Cell} {x : D} (h : OT K G o v c) (m : ∀ x ∈ c, x ∈ L) (S : Sep T G H L) (e : oDat o = some x) : Dp K H v x := by
  unfold oDat at e
  split at e
  · cases e
    cases h with
    | d h => exact dp_mono S.same _ _ h
  · cases e
    cases h with
    | l h => exact .lst (.inl (.inl (S.at_ _ (m _ List.mem_cons_self)).1)) (dps_mono S.same _ _ h)
  · cases e
theorem c2_eq {k : Nat} (hr : Room k X.A) : Cmp2 X T .Eq gEq := by
  intro G H L x y k vx vy cx cy ox oy mx my S e
  unfold gEq at e
  obtain ⟨a, ea, e⟩ := bind_eq e
  obtain ⟨b, eb, e⟩ := bind_eq e
  split at e
  · rename_i hs
    cases e
    exact ⟨_, op_eqD hr.units, fun Q q => ⟨a, b, dat_of ox mx S ea, dat_of oy my S eb, hs.1, hs.2, q⟩⟩
  · cases e
theorem c2_ne {k : Nat} (hr : Room k X.A) : Cmp2 X T .NotEq gNe := by
  intro G H L x y k vx vy cx cy ox oy mx my S e
  unfold gNe gEq at e
  obtain ⟨k', e1, e2⟩ := bind_eq e
  cases e2
  clear e
  have e := e1
  clear e1
  obtain ⟨a, ea, e⟩ := bind_eq e
  obtain ⟨b, eb, e⟩ := bind_eq e
  split at e
  · rename_i hs
    cases e
    exact ⟨_, op_neD hr.units, fun Q q => ⟨a, b, dat_of ox mx S ea, dat_of oy my S eb, hs.1, hs.2, q⟩⟩
  · cases e
theorem room65 {k : Nat} {A : Around} (r : Room k A) : A.units + 65 < cLine := by have := r.un; omega
theorem c2_in {k : Nat} (hr : Room k X.A) : Cmp2 X T .In gIn := by
  intro G H L x y k vx vy cx cy ox oy mx my S e
  unfold gIn at e
  obtain ⟨a, ea, e⟩ := bind_eq e
  obtain ⟨b, eb, e⟩ := bind_eq e
  split at e
  · rename_i hs
    cases e
    obtain ⟨p, vs, rfl, hp, hq⟩ := lst_of oy my S eb
    exact ⟨_, op_inD (room65 hr), fun Q q => ⟨a, b, dat_of ox mx S ea, .lst hp (dps_mono S.same _ _ hq), hs.1, hs.2, q⟩⟩
  · cases e
theorem c2_notin {k : Nat} (hr : Room k X.A) : Cmp2 X T .NotIn gNotIn := by
  intro G H L x y k vx vy cx cy ox oy mx my S e
  unfold gNotIn gIn at e
  obtain ⟨k', e1, e2⟩ := bind_eq e
  cases e2
  clear e
  have e := e1
  clear e1
  obtain ⟨a, ea, e⟩ := bind_eq e
  obtain ⟨b, eb, e⟩ := bind_eq e
  split at e
  · rename_i hs
    cases e
    obtain ⟨p, vs, rfl, hp, hq⟩ := lst_of oy my S eb
    exact ⟨_, op_notInD (room65 hr), fun Q q => ⟨a, b, dat_of ox mx S ea, .lst hp (dps_mono S.same _ _ hq), hs.1, hs.2, q⟩⟩
  · cases e
theorem isN_of {K : PySem.W.Frag} {G : Hp} {x : O} {v : V} {c : List Cell} {k : Bool} (h : OT K G x v c) (e : gIsN x = some k) : decide (v = .non) = k := by
  unfold gIsN at e
  split at e
  · cases e
    cases h with
    | d h =>
      cases h
      rfl
  · rename_i hne
    cases e
    cases h with
    | d h =>
      cases h <;> first | rfl | exact absurd rfl (hne _) | (exfalso; exact hne rfl)
  · cases e
    cases h
    rfl
  · cases e
    cases h
    rfl
theorem c2_is : Cmp2 X T .Is gIs := by
  intro G H L x y k vx vy cx cy ox oy mx my S e
  unfold gIs at e
  split at e
  · cases oy with
    | d oy =>
      cases oy
      refine ⟨_, op_isN, fun Q q => ⟨rfl, ?_⟩⟩
      rw [isN_of ox e]
      exact q
  · cases e
theorem c2_isnot : Cmp2 X T .IsNot gIsNot := by
  intro G H L x y k vx vy cx cy ox oy mx my S e
  unfold gIsNot gIs at e
  obtain ⟨k', e1, e2⟩ := bind_eq e
  cases e2
  clear e
  have e := e1
  clear e1
  split at e
  · cases oy with
    | d oy =>
      cases oy
      refine ⟨_, op_notN, fun Q q => ⟨rfl, ?_⟩⟩
      rw [isN_of ox e]
      exact q
  · cases e
end
end Sh

/-! Shift layer 4: tests, displays, subscripts, calls. -/
namespace Sh
open PySem PySem.Spec PyProof.Rows L2
section
variable {X : Cx} {T : List Addr} {a b c e : Expr} {pos : Pos} {rest es : List Expr}
/-! ### tests -/
theorem bv_tru {fa : ExP} (ha : OV X T a fa) (he : ∀ whole, isTrue a X.env whole = (do let v ← whole; standAt a.pos; holding [v] (truthy v)) := by intro _; rfl) : BV X T a (bTru fa) := by
  obtain ⟨ta, pa, ha⟩ := ha
  refine ⟨_, pt_truth pa he, fun env k env' hf G σ H L Lx hR hS Q hQ => ?_⟩
  unfold bTru at hf
  obtain ⟨⟨r, env1⟩, e1, hf⟩ := bind_eq hf
  obtain ⟨x, e2, hf⟩ := bind_eq hf
  obtain ⟨k', e3, hf⟩ := bind_eq hf
  cases hf
  refine ha env r env1 e1 G σ H L Lx hR hS _ fun G1 v H1 L1 Lo s1 o1 R1 S1 => ?_
  obtain ⟨cx, ox, mx⟩ := res_of o1 R1 e2
  refine ⟨k, ?_, hQ G1 H1 L1 s1 R1 (S1.sub .drop)⟩
  have mx' : ∀ c ∈ cx, c ∈ Lo ++ (L1 ++ Lx) := fun c hc => by
    rcases List.mem_append.mp (mx c hc) with q | q
    · exact List.mem_append_left _ q
    · exact List.mem_append_right _ (List.mem_append_left _ q)
  have emp : ∀ {vs : List V} {xs : List D}, DpAll X.K G1 vs xs → (!xs.isEmpty) = (!vs.isEmpty) := fun {vs xs} h => by
    cases h <;> rfl
  unfold oTru at e3
  split at e3 <;> try cases e3
  · cases ox with | d ox => cases ox; rfl
  · cases ox with | d ox => cases ox; rfl
  · cases ox with | d ox => cases ox; rfl
  · rename_i x
    split at e3
    · rename_i hx
      cases e3
      cases ox with
      | d ox =>
        cases ox
        exact ⟨Nat.le_trans hx (by decide), rfl⟩
    · cases e3
  · cases ox with
    | d ox =>
      cases ox with
      | lst h hs =>
        rw [emp hs]
        exact .inl ⟨_, S1.same.seq h, rfl⟩
  · cases ox with
    | d ox =>
      cases ox with
      | tup h hs =>
        rw [emp hs]
        exact .inr (.inl ⟨_, same_sqT S1.same h, rfl⟩)
  · cases ox with
    | l h =>
      rw [emp h]
      exact .inl ⟨_, .inl (.inl (S1.at_ _ (mx' _ List.mem_cons_self)).1), rfl⟩
  · cases ox with
    | @m kvs p ks h =>
      refine .inr (.inr ⟨ks, (S1.at_ _ (mx' _ List.mem_cons_self)).1, ?_⟩)
      cases h <;> rfl
theorem bw_and1 {fa : ExB} (ha : BV X T a fa) : BW X T (.BoolOp .And [a] pos) fa := let ⟨t, p, h⟩ := ha; ⟨t, pw_and1 p, h⟩
theorem bw_or1 {fa : ExB} (ha : BV X T a fa) : BW X T (.BoolOp .Or [a] pos) fa := let ⟨t, p, h⟩ := ha; ⟨t, pw_or1 p, h⟩
theorem bw_and {fa fb : ExB} (ha : BV X T a fa) (hb : BW X T (.BoolOp .And (b :: rest) pos) fb) : BW X T (.BoolOp .And (a :: b :: rest) pos) (bAnd fa fb) := by
  obtain ⟨ta, pa, ha⟩ := ha
  obtain ⟨tb, pb, hb⟩ := hb
  refine ⟨_, pw_and pa pb, fun env k env' hf G σ H L Lx hR hS Q hQ => ?_⟩
  unfold bAnd at hf
  obtain ⟨⟨k1, env1⟩, e1, hf⟩ := bind_eq hf
  refine ha env k1 env1 e1 G σ H L Lx hR hS _ fun G1 H1 L1 s1 R1 S1 => ?_
  cases k1 with
  | true =>
    simp only [if_true] at hf ⊢
    exact hb env1 k env' hf G1 σ H1 L1 Lx R1 S1 Q fun G2 H2 L2 s2 R2 S2 => hQ G2 H2 L2 (s1.trans s2) R2 S2
  | false =>
    simp only [Bool.false_eq_true, if_false] at hf ⊢
    cases hf
    exact hQ G1 H1 L1 s1 R1 S1
theorem bw_or {fa fb : ExB} (ha : BV X T a fa) (hb : BW X T (.BoolOp .Or (b :: rest) pos) fb) : BW X T (.BoolOp .Or (a :: b :: rest) pos) (bOr fa fb) := by
  obtain ⟨ta, pa, ha⟩ := ha
  obtain ⟨tb, pb, hb⟩ := hb
  refine ⟨_, pw_or pa pb, fun env k env' hf G σ H L Lx hR hS Q hQ => ?_⟩
  unfold bOr at hf
  obtain ⟨⟨k1, env1⟩, e1, hf⟩ := bind_eq hf
  refine ha env k1 env1 e1 G σ H L Lx hR hS _ fun G1 H1 L1 s1 R1 S1 => ?_
  cases k1 with
  | true =>
    simp only [if_true] at hf ⊢
    cases hf
    exact hQ G1 H1 L1 s1 R1 S1
  | false =>
    simp only [Bool.false_eq_true, if_false] at hf ⊢
    exact hb env1 k env' hf G1 σ H1 L1 Lx R1 S1 Q fun G2 H2 L2 s2 R2 S2 => hQ G2 H2 L2 (s1.trans s2) R2 S2
theorem bv_not {fa : ExB} (ha : BV X T a fa) : BV X T (.UnaryOp .Not a pos) (bNot fa) := by
  obtain ⟨ta, pa, ha⟩ := ha
  refine ⟨_, pt_not pa, fun env k env' hf G σ H L Lx hR hS Q hQ => ?_⟩
  unfold bNot at hf
  obtain ⟨⟨k1, env1⟩, e1, hf⟩ := bind_eq hf
  cases hf
  exact ha env k1 env1 e1 G σ H L Lx hR hS _ fun G1 H1 L1 s1 R1 S1 => hQ G1 H1 L1 s1 R1 S1
theorem bool_of {K : PySem.W.Frag} {G : Hp} {o : O} {v : V} {c : List Cell} {k : Bool} (h : OT K G o v c) (e : oBool o = some k) : v = .bl k ∧ c = [] ∧ o = .d (.bool k) := by
  unfold oBool at e
  split at e
  · cases e
    cases h with
    | d h =>
      cases h
      exact ⟨rfl, rfl, rfl⟩
  · cases e
/-- as values -/
theorem ev_one {op} {fa : Ex} (ha : EV X T a fa) : EV X T (.BoolOp op [a] pos) fa := let ⟨t, p, h⟩ := ha; ⟨t, pe_one p, h⟩
theorem ev_and {fa fb : Ex} (ha : EV X T a fa) (hb : EV X T (.BoolOp .And (b :: rest) pos) fb) : EV X T (.BoolOp .And (a :: b :: rest) pos) (eAnd fa fb) := by
  obtain ⟨ta, pa, ha⟩ := ha
  obtain ⟨tb, pb, hb⟩ := hb
  refine ⟨_, pe_and pa pb, fun env o env' hf G σ H L Lx hR hS Q hQ => ?_⟩
  unfold eAnd at hf
  obtain ⟨⟨o1, env1⟩, e1, hf⟩ := bind_eq hf
  obtain ⟨k1, e2, hf⟩ := bind_eq hf
  refine ha env o1 env1 e1 G σ H L Lx hR hS _ fun G1 v1 H1 L1 Lo1 s1 ot1 R1 S1 => ?_
  obtain ⟨rfl, rfl, rfl⟩ := bool_of ot1 e2
  refine ⟨k1, rfl, ?_⟩
  cases k1 with
  | true =>
    simp only [if_true] at hf ⊢
    exact hb env1 o env' hf G1 σ H1 L1 Lx R1 S1 Q fun G2 v2 H2 L2 Lo2 s2 o2 R2 S2 => hQ G2 v2 H2 L2 Lo2 (s1.trans s2) o2 R2 S2
  | false =>
    simp only [Bool.false_eq_true, if_false] at hf ⊢
    cases hf
    exact hQ G1 _ H1 L1 [] s1 (.d (.bl false)) R1 S1
theorem ev_or {fa fb : Ex} (ha : EV X T a fa) (hb : EV X T (.BoolOp .Or (b :: rest) pos) fb) : EV X T (.BoolOp .Or (a :: b :: rest) pos) (eOr fa fb) := by
  obtain ⟨ta, pa, ha⟩ := ha
  obtain ⟨tb, pb, hb⟩ := hb
  refine ⟨_, pe_or pa pb, fun env o env' hf G σ H L Lx hR hS Q hQ => ?_⟩
  unfold eOr at hf
  obtain ⟨⟨o1, env1⟩, e1, hf⟩ := bind_eq hf
  obtain ⟨k1, e2, hf⟩ := bind_eq hf
  refine ha env o1 env1 e1 G σ H L Lx hR hS _ fun G1 v1 H1 L1 Lo1 s1 ot1 R1 S1 => ?_
  obtain ⟨rfl, rfl, rfl⟩ := bool_of ot1 e2
  refine ⟨k1, rfl, ?_⟩
  cases k1 with
  | true =>
    simp only [if_true] at hf ⊢
    cases hf
    exact hQ G1 _ H1 L1 [] s1 (.d (.bl true)) R1 S1
  | false =>
    simp only [Bool.false_eq_true, if_false] at hf ⊢
    exact hb env1 o env' hf G1 σ H1 L1 Lx R1 S1 Q fun G2 v2 H2 L2 Lo2 s2 o2 R2 S2 => hQ G2 v2 H2 L2 Lo2 (s1.trans s2) o2 R2 S2
/-- not a, as a value -/
theorem ev_not {fa : Ex} (ha : EV X T a fa) : EV X T (.UnaryOp .Not a pos) (eNot fa) := by
  obtain ⟨ta, pa, ha⟩ := ha
  refine ⟨_, pe_not pa, fun env o env' hf G σ H L Lx hR hS Q hQ => ?_⟩
  unfold eNot at hf
  obtain ⟨⟨o1, env1⟩, e1, hf⟩ := bind_eq hf
  obtain ⟨k1, e2, hf⟩ := bind_eq hf
  cases hf
  refine ha env o1 env1 e1 G σ H L Lx hR hS _ fun G1 v1 H1 L1 Lo1 s1 ot1 R1 S1 => ?_
  obtain ⟨rfl, rfl, rfl⟩ := bool_of ot1 e2
  exact ⟨k1, rfl, hQ G1 _ H1 L1 [] s1 (.d (.bl _)) R1 S1⟩
theorem ev_if {fc : ExB} {fa fb : Ex} (hc : BV X T c fc) (ha : EV X T a fa) (hb : EV X T b fb) : EV X T (.IfExp c a b pos) (eIf fc fa fb) := by
  obtain ⟨tc, pc, hc⟩ := hc
  obtain ⟨ta, pa, ha⟩ := ha
  obtain ⟨tb, pb, hb⟩ := hb
  refine ⟨_, pe_ifExp pc pa pb, fun env o env' hf G σ H L Lx hR hS Q hQ => ?_⟩
  unfold eIf at hf
  obtain ⟨⟨k1, env1⟩, e1, hf⟩ := bind_eq hf
  refine hc env k1 env1 e1 G σ H L Lx hR hS _ fun G1 H1 L1 s1 R1 S1 => ?_
  cases k1 with
  | true =>
    simp only [if_true] at hf ⊢
    exact ha env1 o env' hf G1 σ H1 L1 Lx R1 S1 Q fun G2 v2 H2 L2 Lo2 s2 o2 R2 S2 => hQ G2 v2 H2 L2 Lo2 (s1.trans s2) o2 R2 S2
  | false =>
    simp only [Bool.false_eq_true, if_false] at hf ⊢
    exact hb env1 o env' hf G1 σ H1 L1 Lx R1 S1 Q fun G2 v2 H2 L2 Lo2 s2 o2 R2 S2 => hQ G2 v2 H2 L2 Lo2 (s1.trans s2) o2 R2 S2
/-- a op1 b op2 c -/
theorem ev_chain {op op' : CmpOp} {g g' : O → O → Option Bool} {fa fb fc : Ex} (hg : Cmp2 X T op g) (hg' : Cmp2 X T op' g') (ha : EV X T a fa) (hb : EV X T b fb) (hc : EV X T c fc) (hm : lastMarks [op, op'] [b, c] = false := by with_unfolding_all rfl) :
    EV X T (.Compare a [op, op'] [b, c] pos) (eChain g g' fa fb fc) := by
  obtain ⟨ta, pa, ha⟩ := ha
  obtain ⟨tb, pb, hb⟩ := hb
  obtain ⟨tc, pc, hc⟩ := hc
  refine ⟨_, pe_chain can2_ok can2_ok pa pb pc hm, fun env o env' hf G σ H L Lx hR hS Q hQ => ?_⟩
  unfold eChain at hf
  obtain ⟨⟨o1, env1⟩, e1, hf⟩ := bind_eq hf
  obtain ⟨⟨o2, env2⟩, e2, hf⟩ := bind_eq hf
  obtain ⟨k, e3, hf⟩ := bind_eq hf
  refine ha env o1 env1 e1 G σ H L Lx hR hS _ fun G1 v1 H1 L1 Lo1 s1 ot1 R1 S1 => ?_
  refine hb env1 o2 env2 e2 G1 σ H1 L1 (Lo1 ++ Lx) R1 S1.comm3 _ fun G2 v2 H2 L2 Lo2 s2 ot2 R2 S2 => ?_
  refine hg.can (ot_mono s2 ot1) ot2 (fun c hc => List.mem_append_right _ (List.mem_append_right _ (List.mem_append_left _ hc))) (fun c hc => List.mem_append_left _ hc) S2 e3 ?_
  refine ⟨k, rfl, ?_⟩
  cases k with
  | true =>
    simp only [if_true] at hf ⊢
    obtain ⟨⟨o3, env3⟩, e4, hf⟩ := bind_eq hf
    obtain ⟨k', e5, hf⟩ := bind_eq hf
    cases hf
    refine hc env2 o3 env3 e4 G2 σ H2 L2 (Lo2 ++ (Lo1 ++ Lx)) R2 S2.comm3 _ fun G3 v3 H3 L3 Lo3 s3 ot3 R3 S3 => ?_
    refine hg'.can (ot_mono s3 ot2) ot3 (fun c hc => List.mem_append_right _ (List.mem_append_right _ (List.mem_append_left _ hc))) (fun c hc => List.mem_append_left _ hc) S3 e5 ?_
    exact hQ G3 _ H3 L3 [] ((s1.trans s2).trans s3) (.d (.bl k')) R3 (S3.sub (show Sub (L3 ++ Lx) _ from Sub.trans (L' := L3 ++ (Lo2 ++ (Lo1 ++ Lx))) .drop (Sub.left (Sub.trans (L' := Lo1 ++ Lx) .drop .drop))))
  | false =>
    simp only [Bool.false_eq_true, if_false] at hf ⊢
    cases hf
    exact hQ G2 _ H2 L2 [] (s1.trans s2) (.d (.bl false)) R2 (S2.sub (sub_tail2 (E := [])))

/-! ### argument lists -/
inductive ArgR (K : PySem.W.Frag) (G : Hp) (σ : St) (env : Ev) : List (Option Nat) → List O → List V → List Cell → Prop where
  | nil : ArgR K G σ env [] [] [] []
  | v {o : O} {v : V} {c : List Cell} {own : List (Option Nat)} {os : List O} {vs : List V} {Lo : List Cell} : OT K G o v c → ArgR K G σ env own os vs Lo → ArgR K G σ env (none :: own) (o :: os) (v :: vs) (c ++ Lo)
  | s {j : Nat} {o : O} {v : V} {own : List (Option Nat)} {os : List O} {vs : List V} {Lo : List Cell} : slot env j = some o → σ[j]? = some (some v) → ArgR K G σ env own os vs Lo → ArgR K G σ env (some j :: own) (o :: os) (v :: vs) Lo
theorem ArgR.mono {K : PySem.W.Frag} {G G' : Hp} {σ : St} {env : Ev} {own : List (Option Nat)} {os : List O} {vs : List V} {Lo : List Cell} (m : Same G G') (h : ArgR K G σ env own os vs Lo) : ArgR K G' σ env own os vs Lo := by
  induction h with
  | nil => exact .nil
  | v h _ ih => exact .v (ot_mono m h) ih
  | s h1 h2 _ ih => exact .s h1 h2 ih
def AV (X : Cx) (T : List Addr) (es : List Expr) (own : List (Option Nat)) (f : ExA) : Prop := ∃ t : TA, PA X es t ∧ ∀ (env : Ev) (os : List O) (env' : Ev), f env = some (os, env') → ∀ (G : Hp) (σ : St) (H : Hp) (L Lx : List Cell), RelS X.K G env σ L → Sep T G H (L ++ Lx) →
  ∀ Q : List V → Hp → Prop, (∀ (G' : Hp) (vs : List V) (H' : Hp) (L' Lo : List Cell), Same G G' → ArgR X.K G' σ env' own os vs Lo → RelS X.K G' env' σ L' → Sep T G' H' (Lo ++ (L' ++ Lx)) → Q vs H') → t σ H Q
theorem av_nil : AV X T [] [] aNil := ⟨_, pa_nil, fun env os env' hf G σ H L Lx hR hS Q hQ => by
  cases hf
  exact hQ G [] H L [] (.refl _) .nil hR hS⟩
theorem av_cons {fa : Ex} {own : List (Option Nat)} {fr : ExA} (ha : EV X T e fa) (hr : AV X T es own fr) (hs : starEach (e :: es) X.env = (false, eval e X.env) :: starEach es X.env := by rfl) : AV X T (e :: es) (none :: own) (aCons fa fr) := by
  obtain ⟨ta, pa, ha⟩ := ha
  obtain ⟨tr, pr, hr⟩ := hr
  refine ⟨_, pa_cons pa pr hs, fun env os env' hf G σ H L Lx hR hS Q hQ => ?_⟩
  unfold aCons at hf
  obtain ⟨⟨o1, env1⟩, e1, hf⟩ := bind_eq hf
  obtain ⟨⟨os2, env2⟩, e2, hf⟩ := bind_eq hf
  cases hf
  refine ha env o1 env1 e1 G σ H L Lx hR hS _ fun G1 v1 H1 L1 Lo1 s1 ot1 R1 S1 => ?_
  refine hr env1 os2 env2 e2 G1 σ H1 L1 (Lo1 ++ Lx) R1 S1.comm3 _ fun G2 vs2 H2 L2 Lo2 s2 ar2 R2 S2 => ?_
  refine hQ G2 (v1 :: vs2) H2 L2 (Lo1 ++ Lo2) (s1.trans s2) (.v (ot_mono s2 ot1) ar2) R2 (S2.sub (.perm ?_))
  refine ((List.perm_append_comm_assoc L2 Lo1 Lx).append_left Lo2).trans ?_
  refine (List.perm_append_comm_assoc Lo2 Lo1 _).trans ?_
  rw [List.append_assoc]
theorem av_own {x : Str} {own : List (Option Nat)} {fr : ExA} (j : Nat) (hr : AV X T es own fr) (hN : X.N[j]? = some x := by rfl) (hv : Vis X.env.scope x := by first | exact Or.inl rfl | exact Or.inr (Or.inl rfl) | exact Or.inr (Or.inr rfl)) (hd : (x == ("__debug__" : Str)) = false := by decide)
    (hcd : (x == ("__classdict__" : Str)) = false := by decide) (hs : starEach (.Name x pos :: es) X.env = (false, eval (.Name x pos) X.env) :: starEach es X.env := by rfl) : AV X T (.Name x pos :: es) (some j :: own) (aOwn j fr) := by
  obtain ⟨tr, pr, hr⟩ := hr
  refine ⟨_, pa_cons (pe_var hN hv hd hcd) pr hs, fun env os env' hf G σ H L Lx hR hS Q hQ => ?_⟩
  unfold aOwn at hf
  obtain ⟨o0, e0, hf⟩ := bind_eq hf
  obtain ⟨⟨os2, env2⟩, e2, hf⟩ := bind_eq hf
  obtain ⟨o1, e1, hf⟩ := bind_eq hf
  cases hf
  obtain ⟨v, c, h1, h2, h3⟩ := rel_get hR e0
  refine ⟨v, h1, ?_⟩
  refine hr env os2 env2 e2 G σ H L Lx hR hS _ fun G2 vs2 H2 L2 Lo2 s2 ar2 R2 S2 => ?_
  exact hQ G2 (v :: vs2) H2 L2 Lo2 s2 (.s e1 h1 ar2) R2 S2
/-- all of a display's items known from now on -/
theorem frz_of {K : PySem.W.Frag} {G H : Hp} {L : List Cell} {o : O} {v : V} {c : List Cell} {x : D} (h : OT K G o v c) (e : frz o = some x) (S : Sep T G H (c ++ L)) : ∃ G', Same G G' ∧ Dp K G' v x ∧ Sep T G' H L := by
  cases h with
  | d h =>
    cases e
    exact ⟨G, .refl _, h, S⟩
  | @l xs p vs h =>
    cases e
    obtain ⟨S2, m⟩ := Sep.freeze (show Sep T G H ((p, .lst vs) :: L) from S)
    exact ⟨_, m, .lst (.inl (.inl upd_same)) (dps_mono m _ _ h), S2⟩
  | m h => cases e
theorem frzAll_of {K : PySem.W.Frag} {σ : St} {env : Ev} : ∀ {own : List (Option Nat)} {os : List O} {vs : List V} {Lo L : List Cell} {xs : List D} {G H : Hp}, ArgR K G σ env own os vs Lo → (∀ x ∈ own, x = none) → frzAll os = some xs → Sep T G H (Lo ++ L) → ∃ G', Same G G' ∧ DpAll K G' vs xs ∧ Sep T G' H L
  | _, _, _, _, _, _, G, _, .nil, _, e, S => by
    cases e
    exact ⟨G, .refl _, .nil, S⟩
  | _, _, _, _, L, _, G, H, .v (c := c) (Lo := Lo) h hs, hn, e, S => by
    unfold frzAll at e
    obtain ⟨x, e1, e⟩ := bind_eq e
    obtain ⟨xs, e2, e⟩ := bind_eq e
    cases e
    rw [List.append_assoc] at S
    obtain ⟨G1, m1, d1, S1⟩ := frz_of h e1 S
    obtain ⟨G2, m2, d2, S2⟩ := frzAll_of (hs.mono m1) (fun x hx => hn x (List.mem_cons_of_mem _ hx)) e2 S1
    exact ⟨G2, m1.trans m2, .cons (dp_mono m2 _ _ d1) d2, S2⟩
  | _, _, _, _, _, _, _, _, .s _ _ _, hn, _, _ => by
    have := hn _ List.mem_cons_self
    cases this
theorem ev_tup {x1} {own : List (Option Nat)} {fs : ExA} (h : AV X T es own fs) (hn : ∀ x ∈ own, x = none := by decide) : EV X T (.Tuple es x1 pos) (eTup fs) := by
  obtain ⟨t, p, h⟩ := h
  refine ⟨_, pe_tup p, fun env o env' hf G σ H L Lx hR hS Q hQ => ?_⟩
  unfold eTup at hf
  obtain ⟨⟨os, env1⟩, e1, hf⟩ := bind_eq hf
  obtain ⟨xs, e2, hf⟩ := bind_eq hf
  split at hf
  · rename_i hl
    cases hf
    refine h env os env1 e1 G σ H L Lx hR hS _ fun G1 vs H1 L1 Lo1 s1 ar R1 S1 => ?_
    obtain ⟨G2, m2, d2, S2⟩ := frzAll_of ar hn e2 S1
    refine ⟨by rw [dps_len d2]; exact Nat.le_trans hl (by decide), fun p hp => ?_⟩
    have m3 := same_new (o := .tup vs) (S2.fresh hp).1
    exact hQ _ (.ref p) _ L1 [] ((s1.trans m2).trans m3) (.d (.tup (.inl (.inl upd_same)) (dps_mono m3 _ _ d2))) (rel_mono (m2.trans m3) R1) (S2.frozen hp)
  · cases hf
theorem ev_lst {own : List (Option Nat)} {fs : ExA} (h : AV X T es own fs) (hn : ∀ x ∈ own, x = none := by decide) : EV X T (.List es pos) (eLst fs) := by
  obtain ⟨t, p, h⟩ := h
  refine ⟨_, pe_lst p, fun env o env' hf G σ H L Lx hR hS Q hQ => ?_⟩
  unfold eLst at hf
  obtain ⟨⟨os, env1⟩, e1, hf⟩ := bind_eq hf
  obtain ⟨xs, e2, hf⟩ := bind_eq hf
  split at hf
  · rename_i hl
    cases hf
    refine h env os env1 e1 G σ H L Lx hR hS _ fun G1 vs H1 L1 Lo1 s1 ar R1 S1 => ?_
    obtain ⟨G2, m2, d2, S2⟩ := frzAll_of ar hn e2 S1
    refine ⟨by rw [dps_len d2]; exact Nat.le_trans hl (by decide), fun p hp => ?_⟩
    exact hQ _ (.ref p) _ L1 [(p, .lst vs)] (s1.trans m2) (.l d2) (rel_mono m2 R1) (S2.owned hp)
  · cases hf

/-! ### subscripts -/
def canI (X : Cx) : R2 := fun x y H Q => ∀ (value slice : Expr) (pins : List (Addr × Obj)) (s : Shared) (σ : St) (v u : Value), Inv X pins σ H s → RelV x v → RelV y u →
    subscripted slice false v u = operate [v, u] (getItem v u) → wpAny (model X.prog X.w) X.A (subscriptTail value slice v u) (L2.EP X pins σ Q) X.xe s
theorem canI_ok : IxR X (canI X) := fun value slice pins s σ H x y v u Q I rx ry h hs => h value slice pins s σ v u I rx ry hs
theorem int_of {K : PySem.W.Frag} {G : Hp} {o : O} {v : V} {c : List Cell} {k : Int} (h : OT K G o v c) (e : oInt o = some k) : v = .int k ∧ c = [] ∧ o = .d (.int k) := by
  unfold oInt at e
  split at e
  · cases e
    cases h with
    | d h =>
      cases h
      exact ⟨rfl, rfl, rfl⟩
  · cases e
theorem at_of {K : PySem.W.Frag} {G : Hp} {vs : List V} {xs : List D} {i : Int} {z : D} (h : DpAll K G vs xs) (e : L2.atI xs i = some z) : ∃ v, L2.atI vs i = some v ∧ Dp K G v z := by
  unfold L2.atI at e ⊢
  obtain ⟨j, e1, e2⟩ := bind_eq e
  rw [dps_len h, e1]
  obtain ⟨v, h1, h2⟩ := dps_get h e2
  exact ⟨v, h1, h2⟩
theorem o2_item : Op2 X T (canI X) gItem := by
  intro G H L x y z vx vy cx cy ox oy mx my S ez Q hQ value slice pins s σ v u I rx ry hs
  unfold gItem dItem at ez
  obtain ⟨xs, e1, ez⟩ := bind_eq ez
  obtain ⟨k, e2, ez⟩ := bind_eq ez
  obtain ⟨w, e3, ez⟩ := bind_eq ez
  cases ez
  obtain ⟨rfl, rfl, rfl⟩ := int_of oy e2
  obtain ⟨p, vs, rfl, hp, hq⟩ := seq_of ox mx S e1
  obtain ⟨vw, h1, h2⟩ := at_of hq e3
  have fin := hQ G vw H [] (.refl _) (.d h2) S
  rcases hp with hp | hp
  · exact ix_list value slice pins s σ H _ _ v u Q I rx ry ⟨p, vs, k, vw, rfl, rfl, hp, h1, fin⟩ hs
  · exact ix_tup value slice pins s σ H _ _ v u Q I rx ry ⟨p, vs, k, vw, rfl, rfl, hp, h1, fin⟩ hs
theorem ev_sub {fa fb : ExP} (ha : OV X T a fa) (hb : OV X T b fb) (hs : PlainIx b := by exact fun _ _ => rfl) : EV X T (.Subscript a b pos) (eOp2 gItem fa fb) := ev_of2 o2_item ha hb fun pa pb => pe_ix canI_ok pa pb hs

/-! ### calls of built-ins -/
def canC (X : Cx) (f : Value) : List V → Hp → VK → Prop := fun xs H Q => ∀ (pins : List (Addr × Obj)) (s : Shared) (σ : St) (us : List Value), Inv X pins σ H s → Vals xs us → wpAny (model X.prog X.w) X.A (call f us) (L2.EP X pins σ Q) X.xe s
theorem canC_ok {f : Value} : CallR X f (canC X f) := fun pins s σ H xs us Q I r h => h pins s σ us I r
theorem can_of {f : Value} {r : List V → Hp → VK → Prop} (h : CallR X f r) {xs : List V} {H : Hp} {Q : VK} (q : r xs H Q) : canC X f xs H Q := fun pins s σ us I rv => h pins s σ H xs us Q I rv q
/-- a call of a built-in function, a built-in type, with one argument -/
theorem ev_b1 {x : Str} {p : Pos} {id : String} {g : O → Option O} {fa : ExP} (hg : Op1 X T (fun v H Q => canC X (.builtin id) [v] H Q) g) (hm : X.mg x = none) (ha : OV X T a fa) (hv : bootBuiltins x = some (.builtin id) := by decide +kernel) (hgl : Gl X x := by rfl) (hn : x ≠ "__name__" := by decide)
    (hdb : (x == ("__debug__" : Str)) = false := by decide) (he : starEach [a] X.env = (false, eval a X.env) :: starEach [] X.env := by rfl) : EV X T (.Call (.Name x p) [a] [] pos) (eOp1 g fa) :=
  ev_of1 hg ha fun {ta} pa => ⟨fun pins s σ H Q I h => (pe_callB canC_ok hgl hm hv (pa_cons pa pa_nil he) hn hdb he (by rfl)).run pins s σ H Q I h⟩
theorem ev_t1 {x : Str} {p : Pos} {id : String} {g : O → Option O} {fa : ExP} (hg : Op1 X T (fun v H Q => canC X (.type id) [v] H Q) g) (hm : X.mg x = none) (ha : OV X T a fa) (hv : bootBuiltins x = some (.type id) := by decide +kernel) (hgl : Gl X x := by rfl) (hn : x ≠ "__name__" := by decide)
    (hdb : (x == ("__debug__" : Str)) = false := by decide) (he : starEach [a] X.env = (false, eval a X.env) :: starEach [] X.env := by rfl) : EV X T (.Call (.Name x p) [a] [] pos) (eOp1 g fa) :=
  ev_of1 hg ha fun {ta} pa => ⟨fun pins s σ H Q I h => (pe_callTy canC_ok hgl hm hv (pa_cons pa pa_nil he) hn hdb he (by rfl)).run pins s σ H Q I h⟩
theorem o1_len : Op1 X T (fun v H Q => canC X (.builtin "len") [v] H Q) gLen := by
  intro G H L x z vx cx ox mx S ez Q hQ
  have seq : ∀ {xs : List D}, oSeq x = some xs → z = .d (.int xs.length) → canC X (.builtin "len") [vx] H Q := fun {xs} e ez => by
    subst ez
    obtain ⟨p, vs, rfl, hp, hq⟩ := seq_of ox mx S e
    have fin := hQ G (.int vs.length) H [] (.refl _) (.d (by rw [dps_len hq]; exact .int _)) S
    exact can_of call_len_seq ⟨p, vs, rfl, hp, fin⟩
  unfold gLen at ez
  split at ez
  · rename_i kvs
    cases ez
    cases ox with
    | @m _ p ks h =>
      have hl : kvs.length = ks.length := Paired.length h
      exact can_of call_lenD ⟨p, ks, rfl, (S.at_ _ (mx _ List.mem_cons_self)).1, hQ G _ H [] (.refl _) (.d (by rw [hl]; exact .int _)) S⟩
  · obtain ⟨xs, e1, ez⟩ := bind_eq ez
    cases ez
    exact seq e1 rfl
theorem o1_int : Op1 X T (fun v H Q => canC X (.type "int") [v] H Q) gInt := by
  intro G H L x z vx cx ox mx S ez Q hQ
  unfold gInt at ez
  split at ez
  · cases ez
    cases ox with
    | d ox =>
      cases ox
      exact can_of call_int1 (.inl ⟨_, rfl, hQ G _ H [] (.refl _) (.d (.int _)) S⟩)
  · cases ez
    cases ox with
    | d ox =>
      cases ox
      exact can_of call_int1 (.inr ⟨_, rfl, hQ G _ H [] (.refl _) (.d (.int _)) S⟩)
  · cases ez
end
end Sh

/-! Shift layer 5: calls of own defs, isinstance, what is walked, comprehensions. -/
namespace Sh
open PySem PySem.Spec PyProof.Rows L2
/-- what a def promises: F of the arguments -/
def spD (K : PySem.W.Frag) (T : List Addr) (F : Fn) : Sp := fun vs H Q _ => ∃ (G : Hp) (os : List O) (cs Lx : List Cell) (r : O) (fs : List (Option O)), RelS K G (os.map some) (vs.map some) cs ∧ Sep T G H (cs ++ Lx) ∧ F os = some (r, fs) ∧
  ∀ (G' : Hp) (v : V) (H' : Hp) (cr cf : List Cell), Same G G' → OT K G' r v cr → RelS K G' fs (vs.map some) cf → Sep T G' H' (cr ++ (cf ++ Lx)) → Q v H'
section
variable {K : PySem.W.Frag} {T : List Addr} {G G' H : Hp} {σ : St}
/-- the owned places, each once -/
def ownOk : List (Option Nat) → Bool
  | [] => true
  | none :: r => ownOk r
  | some j :: r => !(r.contains (some j)) && ownOk r
theorem slot_set_ne {e : Ev} {i j : Nat} {x : Option O} (h : i ≠ j) : slot (e.set i x) j = slot e j := by
  unfold slot
  rw [List.getElem?_set_ne h]
theorem clearE_slot : ∀ {own : List (Option Nat)} {e : Ev} {j : Nat}, some j ∉ own → slot (clearE own e) j = slot e j
  | [], _, _, _ => rfl
  | none :: own, e, j, h => by
    unfold clearE
    exact clearE_slot fun z => h (List.mem_cons_of_mem _ z)
  | some i :: own, e, j, h => by
    unfold clearE
    rw [slot_set_ne (fun z => h (by rw [z]; exact List.mem_cons_self))]
    exact clearE_slot fun z => h (List.mem_cons_of_mem _ z)
theorem call_take {env : Ev} {own : List (Option Nat)} {os : List O} {vs : List V} {Lo : List Cell} (h : ArgR K G σ env own os vs Lo) : ∀ {L : List Cell}, ownOk own = true → RelS K G env σ L →
    ∃ cs Lr, RelS K G (os.map some) (vs.map some) cs ∧ RelS K G (clearE own env) σ Lr ∧ (Lo ++ L).Perm (cs ++ Lr) := by
  induction h with
  | nil => intro L _ hR; exact ⟨[], L, .nil, hR, .refl _⟩
  | @v o v c own os vs Lo h hs ih =>
    intro L hn hR
    obtain ⟨cs, Lr, a, b, p⟩ := ih (by simpa [ownOk] using hn) hR
    refine ⟨c ++ cs, Lr, .some h a, b, ?_⟩
    rw [List.append_assoc, List.append_assoc]
    exact p.append_left c
  | @s j o v own os vs Lo h1 h2 hs ih =>
    intro L hn hR
    simp only [ownOk, Bool.and_eq_true, Bool.not_eq_true', List.contains_eq_mem, decide_eq_false_iff_not] at hn
    obtain ⟨cs, Lr, a, b, p⟩ := ih hn.2 hR
    have h3 : slot (clearE own env) j = some o := by rw [clearE_slot hn.1]; exact h1
    obtain ⟨v', c, Lr', e1, e2, e3, e4⟩ := rel_take b h3
    rw [h2] at e1
    cases e1
    refine ⟨c ++ cs, Lr', .some e2 a, e4, p.trans ?_⟩
    refine (e3.append_left cs).trans ?_
    rw [List.append_assoc]
    exact List.perm_append_comm_assoc cs c Lr'
theorem slot_set_same {e : Ev} {j : Nat} : slot (e.set j none) j = none := by
  unfold slot
  rw [List.getElem?_set]
  split
  · split <;> rfl
  · rename_i hh
    exact absurd rfl hh
theorem clearE_none : ∀ {own : List (Option Nat)} {e : Ev} {j : Nat}, some j ∈ own → slot (clearE own e) j = none
  | none :: own, e, j, h => by
    unfold clearE
    exact clearE_none (by simpa using h)
  | some i :: own, e, j, h => by
    unfold clearE
    by_cases hij : i = j
    · subst hij
      exact slot_set_same
    · rw [slot_set_ne hij]
      exact clearE_none (by
        rcases List.mem_cons.mp h with z | z
        · cases z
          exact absurd rfl hij
        · exact z)
/-- the places are given back -/
theorem call_put {env : Ev} {own : List (Option Nat)} {os : List O} {vs : List V} {Lo : List Cell} (h : ArgR K G σ env own os vs Lo) : ∀ {fs : List (Option O)} {cf Lr : List Cell} {e : Ev}, ownOk own = true → (∀ j, some j ∈ own → slot e j = none) →
    RelS K G' fs (vs.map some) cf → RelS K G' e σ Lr → ∃ L', RelS K G' (putBack own fs e) σ L' ∧ Sub L' (cf ++ Lr) := by
  induction h with
  | nil =>
    intro fs cf Lr e _ _ hf hR
    cases hf
    exact ⟨Lr, hR, .refl⟩
  | @v o v c own os vs Lo h hs ih =>
    intro fs cf Lr e hn he hf hR
    have hn' : ownOk own = true := by simpa [ownOk] using hn
    have he' : ∀ j, some j ∈ own → slot e j = none := fun j z => he j (List.mem_cons_of_mem _ z)
    cases hf with
    | none hf =>
      obtain ⟨L', a, b⟩ := ih hn' he' hf hR
      exact ⟨L', a, b⟩
    | some hf1 hf =>
      obtain ⟨L', a, b⟩ := ih hn' he' hf hR
      refine ⟨L', a, Sub.trans ?_ b⟩
      rw [List.append_assoc]
      exact .drop
  | @s j o v own os vs Lo h1 h2 hs ih =>
    intro fs cf Lr e hn he hf hR
    simp only [ownOk, Bool.and_eq_true, Bool.not_eq_true', List.contains_eq_mem, decide_eq_false_iff_not] at hn
    have hne : ∀ (x : Option O) (i : Nat), some i ∈ own → slot (e.set j x) i = none := fun x i z => by
      rw [slot_set_ne (fun q => hn.1 (by rw [q]; exact z))]
      exact he i (List.mem_cons_of_mem _ z)
    cases hf with
    | none hf =>
      have e1 := he j List.mem_cons_self
      obtain ⟨Lq, q1, q2⟩ := rel_forget hR j
      obtain ⟨L', a, b⟩ := ih hn.2 (hne none) hf q1
      exact ⟨L', a, Sub.trans q2.left b⟩
    | @some o' _ c' _ _ cf' hf1 hf =>
      obtain ⟨Lq, q1, q2⟩ := rel_put_at hR (he j List.mem_cons_self) h2 hf1
      obtain ⟨L', a, b⟩ := ih hn.2 (hne (some o')) hf q1
      refine ⟨L', a, Sub.trans (.perm ?_) b⟩
      rw [List.append_assoc]
      exact (List.perm_append_comm_assoc c' cf' Lr).trans (q2.symm.append_left cf')
end
section
variable {X : Cx} {T : List Addr} {a b c e : Expr} {pos : Pos} {rest es : List Expr}
theorem ev_call {k : Nat} {f : Addr} {fd : FuncData} {ps : List Str} {x : Str} {p : Pos} {F : Fn} {own : List (Option Nat)} {fas : ExA} (hF : FnOk X.prog X.w X.K X.mg X.base CX0 k f fd ps (spD X.K T F)) (hr : Room k X.A) (hm : X.mg x = some (.ref f)) (hk : PySem.W.keepIn X.K (.ref f) = true) (hb : Binds X.K fd ps [])
    (ha : AV X T (e :: es) own fas) (ho : ownOk own = true := by decide) (hg : Gl X x := by rfl) (hdb : (x == ("__debug__" : Str)) = false := by decide) (he : starEach (e :: es) X.env = (false, eval e X.env) :: starEach es X.env := by rfl) (hpl : (backTo pos (starEach es X.env)).any (·.1) = false := by rfl) :
    EV X T (.Call (.Name x p) (e :: es) [] pos) (eCall F own fas) := by
  obtain ⟨t, pa, h⟩ := ha
  refine ⟨_, pe_call hF hr hg hm hk hb .nil pass0 pa hdb he hpl, fun env o env' hf G σ H L Lx hR hS Q hQ => ?_⟩
  unfold eCall at hf
  obtain ⟨⟨os, env1⟩, e1, hf⟩ := bind_eq hf
  obtain ⟨⟨r, fs⟩, e2, hf⟩ := bind_eq hf
  cases hf
  refine h env os env1 e1 G σ H L Lx hR hS _ fun G1 vs H1 L1 Lo1 s1 ar R1 S1 => ?_
  obtain ⟨cs, Lr, q1, q2, q3⟩ := call_take ar ho R1
  refine ⟨G1, os, cs, Lr ++ Lx, r, fs, by simpa using q1, S1.sub (.perm ?_), e2, fun G2 v H2 cr cf s2 ot rf S2 => ?_⟩
  · rw [← List.append_assoc, ← List.append_assoc]
    exact q3.append_right Lx
  · obtain ⟨L', w1, w2⟩ := call_put (G' := G2) ar ho (fun j z => clearE_none z) (by simpa using rf) (rel_mono s2 q2)
    refine hQ G2 v H2 L' cr (s1.trans s2) ot w1 (S2.sub (Sub.left ?_))
    rw [← List.append_assoc]
    exact w2.right
/-- f() -/
theorem ev_call0 {k : Nat} {f : Addr} {fd : FuncData} {ps : List Str} {x : Str} {p : Pos} {F : Fn} (hF : FnOk X.prog X.w X.K X.mg X.base CX0 k f fd ps (spD X.K T F)) (hr : Room k X.A) (hm : X.mg x = some (.ref f)) (hk : PySem.W.keepIn X.K (.ref f) = true) (hb : Binds X.K fd ps [])
    (hg : Gl X x := by rfl) (hdb : (x == ("__debug__" : Str)) = false := by decide) : EV X T (.Call (.Name x p) [] [] pos) (eCall F [] aNil) := by
  refine ⟨_, pe_call0 hF hr hg hm hk hb .nil pass0 hdb, fun env o env' hf G σ H L Lx hR hS Q hQ => ?_⟩
  unfold eCall aNil at hf
  obtain ⟨⟨os, env1⟩, e1, hf⟩ := bind_eq hf
  cases e1
  obtain ⟨⟨r, fs⟩, e2, hf⟩ := bind_eq hf
  cases hf
  refine ⟨G, [], [], L ++ Lx, r, fs, .nil, hS, e2, fun G2 v H2 cr cf s2 ot rf S2 => ?_⟩
  cases rf
  exact hQ G2 v H2 L cr s2 ot (by simpa [putBack, clearE] using rel_mono s2 hR) S2

/-! ### isinstance -/
theorem ty_of {K : PySem.W.Frag} {G H : Hp} {L : List Cell} {o : O} {v : V} {c : List Cell} (h : OT K G o v c) (m : ∀ x ∈ c, x ∈ L) (S : Sep T G H L) (hd : ∀ kvs, o ≠ .d (.dict kvs)) : TyX K H v (.type (tyName o)) := by
  have sq : ∀ {p vs}, SqL K H p vs → TyX K H (.ref p) (.type "list") := fun {p vs} z => by
    rcases z with (z | ⟨o, z⟩) | ⟨o, its, n, z1, z2, _⟩
    · exact .base (.lst z)
    · exact .base (.frz z)
    · exact .kList z1 z2
  have sqt : ∀ {p vs}, SqT K H p vs → TyX K H (.ref p) (.type "tuple") := fun {p vs} z => by
    rcases z with (z | ⟨o, z⟩) | ⟨o, its, n, z1, z2, _⟩
    · exact .base (.tup z)
    · exact .fTuple z
    · exact .kTuple z1 z2
  cases h with
  | d h =>
    cases h with
    | non => exact .base .non
    | bl b => exact .base (.bl b)
    | int i => exact .base (.int i)
    | str x => exact .base (.str x)
    | lst h _ => exact sq (S.same.seq h)
    | tup h _ => exact sqt (same_sqT S.same h)
  | l h => exact .base (.lst (S.at_ _ (m _ List.mem_cons_self)).1)
  | m h => exact .base (.dK (S.at_ _ (m _ List.mem_cons_self)).1)
theorem gIsa_eq {ns : List String} {x z : O} (h : gIsa ns x = some z) : (∀ kvs, x ≠ .d (.dict kvs)) ∧ z = .d (.bool (ns.any (isaTy (tyName x)))) := by
  unfold gIsa at h
  split at h
  · cases h
  · rename_i hn
    cases h
    exact ⟨fun kvs e => hn kvs e, rfl⟩
def tyNames : List String := ["NoneType", "bool", "int", "str", "list", "tuple", "dict"]
theorem tyName_mem {x : O} (h : ∀ kvs, x ≠ .d (.dict kvs)) : tyName x ∈ tyNames := by
  unfold tyNames tyName
  split <;> first | decide | (exfalso; exact h _ rfl)
theorem kit_all : ∀ t ∈ tyNames, ∀ n ∈ ["int", "bool", "str", "list", "tuple", "dict"], kitB t n = some (isaTy t n) := by decide +kernel
/-- isinstance(x, C), C a built-in type -/
theorem ev_isa {n : Str} {p1 p2 : Pos} {nm : String} {fa : ExP} (hm : X.mg "isinstance" = none) (hmn : X.mg n = none) (ha : OV X T a fa) (hv : bootBuiltins n = some (.type nm) := by decide +kernel) (hi : bootBuiltins "isinstance" = some (.builtin "isinstance") := by decide +kernel)
    (hnm : nm ∈ ["int", "bool", "str", "list", "tuple", "dict"] := by decide) (hg : Gl X "isinstance" := by rfl) (hgn : Gl X n := by rfl) (hnn : n ≠ "__name__" := by decide) (hnd : (n == ("__debug__" : Str)) = false := by decide)
    (hs1 : starEach [a, .Name n p2] X.env = (false, eval a X.env) :: starEach [.Name n p2] X.env := by rfl) (hs2 : starEach [.Name n p2] X.env = (false, eval (.Name n p2) X.env) :: starEach [] X.env := by rfl)
    (hpl : (backTo pos (starEach [.Name n p2] X.env)).any (·.1) = false := by rfl) : EV X T (.Call (.Name "isinstance" p1) [a, .Name n p2] [] pos) (eOp1 (gIsa [nm]) fa) := by
  refine ev_of1 (r := fun v H Q => canC X (.builtin "isinstance") [v, .ty nm] H Q) ?_ ha fun {ta} pa => ⟨fun pins s σ H Q I h => (pe_callB canC_ok hg hm hi (pa_cons pa (pa_cons (pe_bltn (v := .ty nm) hgn hmn hv rfl hnn hnd) pa_nil hs2) hs1) (by decide) (by decide) hs1 hpl).run pins s σ H Q I h⟩
  intro G H L x z vx cx ox mx S ez Q hQ
  obtain ⟨hnd, rfl⟩ := gIsa_eq ez
  refine can_of call_isi ⟨vx, .ty nm, .type (tyName x), .type nm, isaTy (tyName x) nm, rfl, .ty nm, ty_of ox mx S hnd, kit_ty (kit_all _ (tyName_mem hnd) nm hnm), ?_⟩
  refine hQ G _ H [] (.refl _) (.d ?_) S
  simp only [List.any_cons, List.any_nil, Bool.or_false]
  exact .bl _
/-- isinstance(x, (C, D)) -/
theorem ev_isa2 {n m : Str} {p1 p2 p3 p4 : Pos} {k5 : Nat} {nm nm2 : String} {fa : ExP} (hm : X.mg "isinstance" = none) (hmn : X.mg n = none) (hmm : X.mg m = none) (ha : OV X T a fa) (hv : bootBuiltins n = some (.type nm) := by decide +kernel) (hv2 : bootBuiltins m = some (.type nm2) := by decide +kernel) (hi : bootBuiltins "isinstance" = some (.builtin "isinstance") := by decide +kernel)
    (hnm : nm ∈ ["int", "bool", "str", "list", "tuple", "dict"] := by decide) (hnm2 : nm2 ∈ ["int", "bool", "str", "list", "tuple", "dict"] := by decide) (hg : Gl X "isinstance" := by rfl) (hgn : Gl X n := by rfl) (hnn : n ≠ "__name__" := by decide) (hnd : (n == ("__debug__" : Str)) = false := by decide) (hgm : Gl X m := by rfl) (hmn' : m ≠ "__name__" := by decide) (hmd : (m == ("__debug__" : Str)) = false := by decide)
    (hs1 : starEach [a, .Tuple [.Name n p2, .Name m p3] k5 p4] X.env = (false, eval a X.env) :: starEach [.Tuple [.Name n p2, .Name m p3] k5 p4] X.env := by rfl) (hs2 : starEach [.Tuple [.Name n p2, .Name m p3] k5 p4] X.env = (false, eval (.Tuple [.Name n p2, .Name m p3] k5 p4) X.env) :: starEach [] X.env := by rfl)
    (hs3 : starEach [.Name n p2, .Name m p3] X.env = (false, eval (.Name n p2) X.env) :: starEach [.Name m p3] X.env := by rfl) (hs4 : starEach [.Name m p3] X.env = (false, eval (.Name m p3) X.env) :: starEach [] X.env := by rfl)
    (hpl : (backTo pos (starEach [.Tuple [.Name n p2, .Name m p3] k5 p4] X.env)).any (·.1) = false := by rfl) : EV X T (.Call (.Name "isinstance" p1) [a, .Tuple [.Name n p2, .Name m p3] k5 p4] [] pos) (eOp1 (gIsa [nm, nm2]) fa) := by
  refine ev_of1 (r := fun v H Q => [V.ty nm, V.ty nm2].length ≤ sizeLine ∧ ∀ tp, H tp = none → canC X (.builtin "isinstance") [v, .ref tp] (upd H tp (.tup [.ty nm, .ty nm2])) Q) ?_ ha fun {ta} pa => ⟨fun pins s σ H Q I h =>
    (pe_callB (canC_ok (X := X)) hg hm hi (pa_cons pa (pa_cons (pe_tup (pa_cons (pe_bltn (v := .ty nm) hgn hmn hv rfl hnn hnd) (pa_cons (pe_bltn (v := .ty nm2) hgm hmm hv2 rfl hmn' hmd) pa_nil hs4) hs3)) pa_nil hs2) hs1) (by decide) (by decide) hs1 hpl).run pins s σ H Q I h⟩
  · intro G H L x z vx cx ox mx S ez Q hQ
    refine ⟨by show 2 ≤ sizeLine; decide, fun tp htp => ?_⟩
    obtain ⟨hnd, rfl⟩ := gIsa_eq ez
    have mm := same_new (o := .tup [.ty nm, .ty nm2]) (S.fresh htp).1
    have S2 := S.frozen (o := .tup [.ty nm, .ty nm2]) htp
    refine can_of call_isiT ⟨vx, tp, [.ty nm, .ty nm2], .type (tyName x), [.type nm, .type nm2], isaTy (tyName x) nm || isaTy (tyName x) nm2, rfl, upd_same, .cons (.ty nm) (.cons (.ty nm2) .nil), ty_of (ot_mono mm ox) mx S2 hnd, ?_, ?_⟩
    · refine kitAny_cons (kit_ty (kit_all _ (tyName_mem hnd) nm hnm)) (fun z => ?_) fun z => by rw [z]; rfl
      refine kitAny_cons (kit_ty (kit_all _ (tyName_mem hnd) nm2 hnm2)) (fun z2 => ?_) fun z2 => by rw [z2, Bool.or_true]
      rw [z, z2]
      exact kitAny_nil
    · refine hQ _ _ _ [] mm (.d ?_) S2
      simp only [List.any_cons, List.any_nil, Bool.or_false]
      exact .bl _

/-! ### what is walked -/
/-- at each heap that holds G0, it goes through ds -/
def WalkD (K : PySem.W.Frag) (T : List Addr) (J : It) (ds : List D) (G0 : Hp) : Prop := ∀ (i : Nat) (G H : Hp) (L : List Cell), Same G0 G → Sep T G H L →
  (∀ d, ds[i]? = some d → J.go i H ∧ ∀ x H', J.yld i H x H' → ∃ G', Same G G' ∧ Dp K G' x d ∧ Sep T G' H' L) ∧ (ds.length ≤ i → J.stop i H)
def IV (X : Cx) (T : List Addr) (tg e : Expr) (f : ExI) : Prop := ∃ wi : TI, PI X tg e wi ∧ ∀ (env : Ev) (ds : List D) (env' : Ev), f env = some (ds, env') → ∀ (G : Hp) (σ : St) (H : Hp) (L Lx : List Cell), RelS X.K G env σ L → Sep T G H (L ++ Lx) →
  ∀ R : It → Hp → Prop, (∀ (G' H' : Hp) (L' : List Cell) (J : It), Same G G' → RelS X.K G' env' σ L' → Sep T G' H' (L' ++ Lx) → WalkD X.K T J ds G' → R J H') → wi σ H R
/-- a list is walked -/
theorem walk_lst {K : PySem.W.Frag} {G0 : Hp} {p : Addr} {vs : List V} {ds : List D} (hp : SqL K G0 p vs) (hs : DpAll K G0 vs ds) : WalkD K T (Itl K p) ds G0 := fun i G H L m S => by
  have h1 : SqL K H p vs := (m.trans S.same).seq hp
  refine ⟨fun d hd => ?_, fun hl => ⟨vs, h1, by rw [dps_len hs]; exact hl⟩⟩
  obtain ⟨v, e1, e2⟩ := dps_get hs hd
  refine ⟨⟨vs, v, h1, e1⟩, fun x H' hy => ?_⟩
  obtain ⟨rfl, q⟩ := hy
  have e3 := q vs h1
  rw [e1] at e3
  cases e3
  exact ⟨G, .refl _, dp_mono m _ _ e2, S⟩
theorem walk_tupl {K : PySem.W.Frag} {G0 : Hp} {p : Addr} {vs : List V} {ds : List D} (hp : SqT K G0 p vs) (hs : DpAll K G0 vs ds) : WalkD K T (Itt K p) ds G0 := fun i G H L m S => by
  have h1 : SqT K H p vs := same_sqT (m.trans S.same) hp
  refine ⟨fun d hd => ?_, fun hl => ⟨vs, h1, by rw [dps_len hs]; exact hl⟩⟩
  obtain ⟨v, e1, e2⟩ := dps_get hs hd
  refine ⟨⟨vs, v, h1, e1⟩, fun x H' hy => ?_⟩
  obtain ⟨rfl, q⟩ := hy
  have e3 := q vs h1
  rw [e1] at e3
  cases e3
  exact ⟨G, .refl _, dp_mono m _ _ e2, S⟩
theorem rangeD_get {lo hi : Int} {i : Nat} {d : D} (h : (rangeD lo hi)[i]? = some d) : i < (hi - lo).toNat ∧ d = .int (lo + (i : Nat)) := by
  unfold rangeD at h
  rw [List.getElem?_map] at h
  by_cases hi' : i < (hi - lo).toNat
  · rw [List.getElem?_range hi'] at h
    cases h
    exact ⟨hi', rfl⟩
  · rw [List.getElem?_eq_none (by simpa using hi')] at h
    cases h
theorem rangeD_len {lo hi : Int} : (rangeD lo hi).length = (hi - lo).toNat := by simp [rangeD]
theorem walk_rng {K : PySem.W.Frag} {G0 : Hp} {lo hi : Int} : WalkD K T (Itr lo (hi - lo).toNat) (rangeD lo hi) G0 := fun i G H L m S => by
  refine ⟨fun d hd => ?_, fun hl => by rw [rangeD_len] at hl; exact hl⟩
  obtain ⟨h1, rfl⟩ := rangeD_get hd
  refine ⟨h1, fun x H' hy => ?_⟩
  obtain ⟨rfl, rfl⟩ := hy
  exact ⟨G, .refl _, .int _, S⟩
theorem oLst_eq {o : O} {xs : List D} (h : oLst o = some xs) : o = .d (.list xs) ∨ o = .l xs := by
  unfold oLst at h
  split at h
  · cases h
    exact .inl rfl
  · cases h
    exact .inr rfl
  · cases h
theorem oTup_eq {o : O} {xs : List D} (h : oTup o = some xs) : o = .d (.tuple xs) := by
  unfold oTup at h
  split at h
  · cases h
    rfl
  · cases h
/-- for .. in a list (a new one is known from now on) -/
theorem iv_lst {tg : Expr} {fa : Ex} (ha : EV X T e fa) : IV X T tg e (iLst fa) := by
  obtain ⟨t, pa, h⟩ := ha
  refine ⟨_, pi_list pa, fun env ds env' hf G σ H L Lx hR hS R hR' => ?_⟩
  unfold iLst at hf
  obtain ⟨⟨o, env1⟩, e1, hf⟩ := bind_eq hf
  obtain ⟨xs, e2, hf⟩ := bind_eq hf
  cases hf
  refine h env o env1 e1 G σ H L Lx hR hS _ fun G1 v H1 L1 Lo s1 ot R1 S1 => ?_
  rcases oLst_eq (show oLst o = some ds from e2) with rfl | rfl
  · cases ot with
    | d ot =>
      cases ot with
      | lst hp hs => exact ⟨_, rfl, ⟨_, S1.same.seq hp⟩, hR' G1 H1 L1 _ s1 R1 (S1.sub .drop) (walk_lst hp hs)⟩
  · cases ot with
    | @l _ p vs hs =>
      obtain ⟨S2, m⟩ := Sep.freeze (show Sep T G1 H1 ((p, .lst vs) :: (L1 ++ Lx)) from S1)
      have hp : SqL X.K (upd G1 p (.lst vs)) p vs := .inl (.inl upd_same)
      exact ⟨_, rfl, ⟨_, S2.same.seq hp⟩, hR' _ H1 L1 _ (s1.trans m) (rel_mono m R1) S2 (walk_lst hp (dps_mono m _ _ hs))⟩
theorem iv_tup {tg : Expr} {fa : Ex} (ha : EV X T e fa) : IV X T tg e (Sh.iTup fa) := by
  obtain ⟨t, pa, h⟩ := ha
  refine ⟨_, pi_tup pa, fun env ds env' hf G σ H L Lx hR hS R hR' => ?_⟩
  unfold Sh.iTup at hf
  obtain ⟨⟨o, env1⟩, e1, hf⟩ := bind_eq hf
  obtain ⟨xs, e2, hf⟩ := bind_eq hf
  cases hf
  refine h env o env1 e1 G σ H L Lx hR hS _ fun G1 v H1 L1 Lo s1 ot R1 S1 => ?_
  have e3 := oTup_eq (show oTup o = some ds from e2)
  subst e3
  cases ot with
  | d ot =>
    cases ot with
    | tup hp hs => exact ⟨_, rfl, ⟨_, same_sqT S1.same hp⟩, hR' G1 H1 L1 _ s1 R1 (S1.sub .drop) (walk_tupl hp hs)⟩
theorem iv_rng1 {tg : Expr} {p : Pos} {fa : Ex} (hm : X.mg "range" = none) (ha : EV X T a fa) (hg : Gl X "range" := by rfl) (hs : starEach [a] X.env = [(false, eval a X.env)] := by rfl) : IV X T tg (.Call (.Name "range" p) [a] [] pos) (iRange fa) := by
  obtain ⟨t, pa, h⟩ := ha
  refine ⟨_, pi_range1 hg hm (pa_cons pa pa_nil (by rw [hs]; rfl)) hs, fun env ds env' hf G σ H L Lx hR hS R hR' => ?_⟩
  unfold iRange at hf
  obtain ⟨⟨o, env1⟩, e1, hf⟩ := bind_eq hf
  obtain ⟨n, e2, hf⟩ := bind_eq hf
  split at hf
  · rename_i hn
    cases hf
    refine h env o env1 e1 G σ H L Lx hR hS _ fun G1 v H1 L1 Lo s1 ot R1 S1 => ?_
    obtain ⟨rfl, rfl, rfl⟩ := int_of ot e2
    refine ⟨n, rfl, by omega, by omega, ?_⟩
    have w := walk_rng (K := X.K) (T := T) (G0 := G1) (lo := 0) (hi := n)
    rw [Int.sub_zero] at w
    exact hR' G1 H1 L1 _ s1 R1 S1 w
  · cases hf
theorem iv_rng2 {tg : Expr} {p : Pos} {fa fb : Ex} (hm : X.mg "range" = none) (ha : EV X T a fa) (hb : EV X T b fb) (hg : Gl X "range" := by rfl) (hs : starEach [a, b] X.env = [(false, eval a X.env), (false, eval b X.env)] := by rfl) (hs2 : starEach [b] X.env = [(false, eval b X.env)] := by rfl) : IV X T tg (.Call (.Name "range" p) [a, b] [] pos) (iRange2 fa fb) := by
  obtain ⟨t, pa, h⟩ := ha
  obtain ⟨t2, pb, h2⟩ := hb
  refine ⟨_, pi_range2 hg hm (pa_cons pa (pa_cons pb pa_nil (by rw [hs2]; rfl)) (by rw [hs, hs2])) hs hs2, fun env ds env' hf G σ H L Lx hR hS R hR' => ?_⟩
  unfold iRange2 at hf
  obtain ⟨⟨o, env1⟩, e1, hf⟩ := bind_eq hf
  obtain ⟨⟨o2, env2⟩, e2, hf⟩ := bind_eq hf
  obtain ⟨m, e3, hf⟩ := bind_eq hf
  obtain ⟨n, e4, hf⟩ := bind_eq hf
  split at hf
  · rename_i hn
    cases hf
    refine h env o env1 e1 G σ H L Lx hR hS _ fun G1 v H1 L1 Lo s1 ot R1 S1 => ?_
    obtain ⟨rfl, rfl, rfl⟩ := int_of ot e3
    refine h2 env1 o2 env2 e2 G1 σ H1 L1 Lx R1 S1 _ fun G2 v2 H2 L2 Lo2 s2 ot2 R2 S2 => ?_
    obtain ⟨rfl, rfl, rfl⟩ := int_of ot2 e4
    exact ⟨m, n, rfl, ⟨by omega, by omega, by omega, by omega⟩, hR' G2 H2 L2 _ (s1.trans s2) R2 S2 walk_rng⟩
  · cases hf
end
end Sh

/-! Shift layer 6: targets and comprehensions. -/
namespace Sh
open PySem PySem.Spec PyProof.Rows L2
section
variable {X : Cx} {T : List Addr} {a b c e : Expr} {pos : Pos} {rest es : List Expr}
/-! ### targets -/
def GV (X : Cx) (T : List Addr) (tg : Expr) (ns : List Nat) (t : Tg) : Prop := ∃ g : TG, PG X tg g ∧ ∀ (x : D) (env env' : Ev), t x env = some env' → ∀ (G : Hp) (σ : St) (H : Hp) (L Lx : List Cell) (v : V), Dp X.K G v x → RelS X.K G env σ L → Sep T G H (L ++ Lx) →
  ∀ Q : St → Hp → Prop, (∀ (σ' : St) (L' : List Cell), (∀ j, j ∉ ns → σ'[j]? = σ[j]?) → σ'.length = σ.length → RelS X.K G env' σ' L' → Sep T G H (L' ++ Lx) → Q σ' H) → g v σ H Q
def GVs (X : Cx) (T : List Addr) (tgs : List Expr) (ns : List Nat) (ts : List Tg) : Prop := ∃ g : TGs, PGs X tgs g ∧ ∀ (xs : List D) (env env' : Ev), tAll ts xs env = some env' → ∀ (G : Hp) (σ : St) (H : Hp) (L Lx : List Cell) (vs : List V), DpAll X.K G vs xs → RelS X.K G env σ L → Sep T G H (L ++ Lx) →
  ∀ Q : St → Hp → Prop, (∀ (σ' : St) (L' : List Cell), (∀ j, j ∉ ns → σ'[j]? = σ[j]?) → σ'.length = σ.length → RelS X.K G env' σ' L' → Sep T G H (L' ++ Lx) → Q σ' H) → g vs σ H Q
theorem gv_name {x : Str} (i : Nat) (hN : X.N.Nodup) (hi : X.N[i]? = some x := by rfl) (hx : Loc X.env.scope x := by first | exact Or.inl rfl | exact Or.inr rfl) (hf : X.fn x = true ∨ X.env.scope.names.lookup x = some .local := by first | exact .inl rfl | exact .inr rfl) : GV X T (.Name x pos) [i] (tName i) := by
  refine ⟨gName i, pg_name hN hi hx hf, fun x env env' ht G σ H L Lx v hd hR hS Q hQ => ?_⟩
  cases ht
  obtain ⟨L', a, b⟩ := rel_put (j := i) hR (.d hd)
  exact hQ _ L' (fun j hj => by rw [List.getElem?_set_ne (fun z => hj (by simp [z]))]) (by simp) a (hS.sub (Sub.right (by simpa using b)))
theorem gvs_nil : GVs X T [] [] [] := by
  refine ⟨_, pgs_nil, fun xs env env' ht G σ H L Lx vs hd hR hS Q hQ => ?_⟩
  cases hd with
  | nil =>
    cases ht
    exact ⟨rfl, hQ σ L (fun _ _ => rfl) rfl hR hS⟩
  | cons _ _ => cases ht
theorem gvs_cons {tgs : List Expr} {ns ms : List Nat} {t : Tg} {ts : List Tg} (h : GV X T a ns t) (h2 : GVs X T tgs ms ts) (hs : (assignEach (a :: tgs) X.env).map (·.2) = assign a X.env :: (assignEach tgs X.env).map (·.2) := by rfl) : GVs X T (a :: tgs) (ns ++ ms) (t :: ts) := by
  obtain ⟨g, p, h⟩ := h
  obtain ⟨g2, p2, h2⟩ := h2
  refine ⟨_, pgs_cons p p2 hs, fun xs env env' ht G σ H L Lx vs hd hR hS Q hQ => ?_⟩
  cases hd with
  | nil => cases ht
  | @cons v vs d ds hd hds =>
    unfold tAll at ht
    obtain ⟨env1, e1, ht⟩ := bind_eq ht
    refine ⟨v, vs, rfl, ?_⟩
    refine h d env env1 e1 G σ H L Lx v hd hR hS _ fun σ1 L1 k1 l1 R1 S1 => ?_
    refine h2 ds env1 env' ht G σ1 H L1 Lx vs hds R1 S1 _ fun σ2 L2 k2 l2 R2 S2 => ?_
    exact hQ σ2 L2 (fun j hj => by rw [k2 j (fun z => hj (List.mem_append_right _ z)), k1 j (fun z => hj (List.mem_append_left _ z))]) (l2.trans l1) R2 S2
theorem gv_tup {tgs : List Expr} {k : Nat} {ns : List Nat} {ts : List Tg} {n : Nat} (hc : X.calm = true) (h : GVs X T tgs ns ts) (hl : ts.length = n := by rfl) (hn : ∀ (g : TGs), PGs X tgs g → PG X (.Tuple tgs k pos) (gTup X.K n g)) : GV X T (.Tuple tgs k pos) ns (tTupl ts) := by
  obtain ⟨g, p, h⟩ := h
  refine ⟨_, hn g p, fun x env env' ht G σ H L Lx v hd hR hS Q hQ => ?_⟩
  unfold tTupl at ht
  split at ht
  · rename_i xs
    cases hd with
    | @tup a vs _ h1 h2 =>
      have hlen : ∀ (ts : List Tg) (xs : List D) (env env' : Ev), tAll ts xs env = some env' → xs.length = ts.length := by
        intro ts
        induction ts with
        | nil =>
          intro xs env env' h
          cases xs with
          | nil => rfl
          | cons _ _ => cases h
        | cons t ts ih =>
          intro xs env env' h
          cases xs with
          | nil => cases h
          | cons x xs =>
            unfold tAll at h
            obtain ⟨e1, _, h⟩ := bind_eq h
            simp [ih xs e1 env' h]
      exact ⟨a, vs, rfl, same_sqT hS.same h1, by rw [dps_len h2, hlen ts xs env env' ht, hl], h xs env env' ht G σ H L Lx vs h2 hR hS Q hQ⟩
  · cases ht

/-! ### slots wiped -/
theorem wipe_get (σ : St) (i : Nat) : ∀ vs : List Nat, (wipe σ vs)[i]? = if i ∈ vs then σ[i]?.map (fun _ => none) else σ[i]?
  | [] => by simp [wipe]
  | v :: vs => by
    unfold wipe
    rw [List.getElem?_set]
    have ih := wipe_get σ i vs
    by_cases hv : v = i
    · subst hv
      simp only [if_true, List.mem_cons, true_or, wipe_length]
      by_cases hl : v < σ.length
      · simp [hl]
      · simp [hl]
    · rw [if_neg hv, ih]
      have hi : ¬ i = v := fun z => hv z.symm
      simp only [List.mem_cons, hi, false_or]
theorem wipe_of {σ σ' : St} {vs : List Nat} (hl : σ'.length = σ.length) (h : ∀ j, j ∉ vs → σ'[j]? = σ[j]?) : wipe σ' vs = wipe σ vs := by
  apply List.ext_getElem?
  intro i
  rw [wipe_get, wipe_get]
  by_cases hi : i ∈ vs
  · rw [if_pos hi, if_pos hi]
    by_cases hb : i < σ.length
    · rw [List.getElem?_eq_getElem (by omega), List.getElem?_eq_getElem hb]
      rfl
    · rw [List.getElem?_eq_none (by omega), List.getElem?_eq_none (by omega)]
  · rw [if_neg hi, if_neg hi, h i hi]
theorem wipe_wipe {σ : St} {vs : List Nat} : wipe (wipe σ vs) vs = wipe σ vs := wipe_of (wipe_length σ vs) fun j hj => by rw [wipe_get, if_neg hj]
section
variable {K : PySem.W.Frag} {G : Hp} {L : List Cell} {σ : St}
theorem rel_wipe {env : Ev} (h : RelS K G env σ L) : ∀ vs : List Nat, ∃ L', RelS K G (wipeE env vs) (wipe σ vs) L' ∧ Sub L' L
  | [] => ⟨L, h, .refl⟩
  | v :: vs => by
    obtain ⟨L1, a, b⟩ := rel_wipe h vs
    obtain ⟨L2, a2, b2⟩ := rel_none a v none
    exact ⟨L2, a2, Sub.trans b b2⟩
theorem set_self {α : Type} {l : List α} {i : Nat} {x : α} (h : l[i]? = some x) : l.set i x = l := by
  apply List.ext_getElem?
  intro j
  rw [List.getElem?_set]
  split
  · rename_i e
    subst e
    split
    · exact h.symm
    · rename_i hl
      rw [List.getElem?_eq_none (by omega)] at h
      cases h
  · rfl
theorem set_none' {α : Type} {l : List α} {i : Nat} {x : α} (h : l[i]? = none) : l.set i x = l := by
  apply List.ext_getElem?
  intro j
  rw [List.getElem?_set]
  split
  · rename_i e
    subst e
    split
    · rename_i hl
      rw [List.getElem?_eq_getElem hl] at h
      cases h
    · exact h.symm
  · rfl
theorem rel_back {old : Ev} : ∀ (vs : List Nat) {e : Ev} {L : List Cell}, vs.Nodup → plainE old vs = true → (∀ v x, slot old v = some (.d x) → ∃ u, σ[v]? = some (some u) ∧ Dp K G u x) → RelS K G e (wipe σ vs) L → ∃ L', RelS K G (backE old e vs) σ L' ∧ Sub L' L
  | [], e, L, _, _, _, h => ⟨L, h, .refl⟩
  | v :: vs, e, L, nd, hp, hd, h => by
    obtain ⟨n1, n2⟩ := List.nodup_cons.mp nd
    unfold plainE at hp
    simp only [Bool.and_eq_true] at hp
    have hw : (wipe σ vs)[v]? = σ[v]? := by rw [wipe_get, if_neg n1]
    have h' : RelS K G e ((wipe σ vs).set v none) L := h
    unfold backE
    have key : ∃ L', RelS K G (e.set v (slot old v)) (wipe σ vs) L' ∧ Sub L' L := by
      cases hs : slot old v with
      | none =>
        cases hq : (wipe σ vs)[v]? with
        | none =>
          rw [set_none' hq] at h'
          obtain ⟨L', a, b⟩ := rel_forget h' v
          exact ⟨L', a, b⟩
        | some q =>
          obtain ⟨L', a, b⟩ := rel_none h' v q
          rw [List.set_set, set_self hq] at a
          exact ⟨L', a, b⟩
      | some o =>
        rw [hs] at hp
        cases o with
        | d x =>
          obtain ⟨u, h1, h2⟩ := hd v x hs
          obtain ⟨L', a, b⟩ := rel_put (j := v) h' (.d h2)
          rw [List.set_set, set_self (hw.trans h1)] at a
          exact ⟨L', a, by simpa using b⟩
        | l xs => simp at hp
        | m t kvs => simp at hp
    obtain ⟨L1, a, b⟩ := key
    obtain ⟨L2, a2, b2⟩ := rel_back vs n2 hp.2 hd a
    exact ⟨L2, a2, Sub.trans b b2⟩
end

/-! ### comprehensions -/
abbrev BlkX (X : Cx) (scope : Scope) (s : Shared) (H : Hp) (C : Addr) (cl : List (Str × Addr)) (fp : List Addr) : Cx := X.blk s H scope (compEnvC scope cl C X.env) fp
/-- one reading for all blocks -/
theorem blk_e {scope : Scope} {elt : Expr} {fe : Ex} (he : ∀ (s : Shared) (H : Hp) (C : Addr) (cl : List (Str × Addr)) (fp : List Addr), EV (BlkX X scope s H C cl fp) T elt fe) :
    ∃ te : TE, (∀ (s : Shared) (H : Hp) (C : Addr) (cl : List (Str × Addr)) (fp : List Addr), PE (BlkX X scope s H C cl fp) elt te) ∧ ∀ (env : Ev) (o : O) (env' : Ev), fe env = some (o, env') → ∀ (G : Hp) (σ : St) (H : Hp) (L Lx : List Cell), RelS X.K G env σ L → Sep T G H (L ++ Lx) →
      ∀ Q : VK, PostE X T Lx G σ o env' Q → te σ H Q := by
  refine ⟨fun σ H Q => ∀ (s0 : Shared) (H0 : Hp) (C : Addr) (cl : List (Str × Addr)) (fp : List Addr) (pins : List (Addr × Obj)) (s : Shared), Inv (BlkX X scope s0 H0 C cl fp) pins σ H s →
    wpAny (model X.prog X.w) X.A (eval elt (BlkX X scope s0 H0 C cl fp).env) (L2.EP (BlkX X scope s0 H0 C cl fp) pins σ Q) (BlkX X scope s0 H0 C cl fp).xe s, fun s0 H0 C cl fp => ⟨fun pins s σ H Q I h => h s0 H0 C cl fp pins s I⟩, fun env o env' hf G σ H L Lx hR hS Q hQ s0 H0 C cl fp pins s I => ?_⟩
  obtain ⟨t, p, h⟩ := he s0 H0 C cl fp
  exact p.run pins s σ H Q I (h env o env' hf G σ H L Lx hR hS Q hQ)
theorem blk_b {scope : Scope} {elt : Expr} {fe : ExB} (he : ∀ (s : Shared) (H : Hp) (C : Addr) (cl : List (Str × Addr)) (fp : List Addr), BV (BlkX X scope s H C cl fp) T elt fe) :
    ∃ te : TT, (∀ (s : Shared) (H : Hp) (C : Addr) (cl : List (Str × Addr)) (fp : List Addr), PT (BlkX X scope s H C cl fp) elt te) ∧ BImp X T fe te := by
  refine ⟨fun σ H Q => ∀ (s0 : Shared) (H0 : Hp) (C : Addr) (cl : List (Str × Addr)) (fp : List Addr) (pins : List (Addr × Obj)) (s : Shared), Inv (BlkX X scope s0 H0 C cl fp) pins σ H s →
    wpAny (model X.prog X.w) X.A (isTrue elt (BlkX X scope s0 H0 C cl fp).env (eval elt (BlkX X scope s0 H0 C cl fp).env)) (TP (BlkX X scope s0 H0 C cl fp) pins σ Q) (BlkX X scope s0 H0 C cl fp).xe s, fun s0 H0 C cl fp => ⟨fun pins s σ H Q I h => h s0 H0 C cl fp pins s I⟩, fun env o env' hf G σ H L Lx hR hS Q hQ s0 H0 C cl fp pins s I => ?_⟩
  obtain ⟨t, p, h⟩ := he s0 H0 C cl fp
  exact p.run pins s σ H Q I (h env o env' hf G σ H L Lx hR hS Q hQ)
theorem blk_g {scope : Scope} {tg : Expr} {ns : List Nat} {tt : Tg} (he : ∀ (s : Shared) (H : Hp) (C : Addr) (cl : List (Str × Addr)) (fp : List Addr), GV (BlkX X scope s H C cl fp) T tg ns tt) :
    ∃ g : TG, (∀ (s : Shared) (H : Hp) (C : Addr) (cl : List (Str × Addr)) (fp : List Addr), PG (BlkX X scope s H C cl fp) tg g) ∧ ∀ (x : D) (env env' : Ev), tt x env = some env' → ∀ (G : Hp) (σ : St) (H : Hp) (L Lx : List Cell) (v : V), Dp X.K G v x → RelS X.K G env σ L → Sep T G H (L ++ Lx) →
      ∀ Q : St → Hp → Prop, (∀ (σ' : St) (L' : List Cell), (∀ j, j ∉ ns → σ'[j]? = σ[j]?) → σ'.length = σ.length → RelS X.K G env' σ' L' → Sep T G H (L' ++ Lx) → Q σ' H) → g v σ H Q := by
  refine ⟨fun v σ H Q => ∀ (s0 : Shared) (H0 : Hp) (C : Addr) (cl : List (Str × Addr)) (fp : List Addr) (pins : List (Addr × Obj)) (s : Shared) (u : Value), Inv (BlkX X scope s0 H0 C cl fp) pins σ H s → RelV v u →
    wpAny (model X.prog X.w) X.A (assign tg (BlkX X scope s0 H0 C cl fp).env u) (fun _ s' => ∃ σ' H', Inv (BlkX X scope s0 H0 C cl fp) pins σ' H' s' ∧ Q σ' H') (BlkX X scope s0 H0 C cl fp).xe s, fun s0 H0 C cl fp => ⟨fun pins s σ H v u Q I r h => h s0 H0 C cl fp pins s u I r⟩, fun x env env' hf G σ H L Lx v hd hR hS Q hQ s0 H0 C cl fp pins s u I r => ?_⟩
  obtain ⟨t, p, h⟩ := he s0 H0 C cl fp
  exact p.run pins s σ H v u Q I r (h x env env' hf G σ H L Lx v hd hR hS Q hQ)
theorem wipeE_none : ∀ {vs : List Nat} {e : Ev} {j : Nat}, j ∈ vs → slot (wipeE e vs) j = none
  | v :: vs, e, j, h => by
    unfold wipeE
    by_cases hv : v = j
    · subst hv
      exact slot_set_same
    · rw [slot_set_ne hv]
      exact wipeE_none (by
        rcases List.mem_cons.mp h with z | z
        · exact absurd z.symm hv
        · exact z)
theorem comp_core {fi : ExI} {ns own : List Nat} {t : Tg} {fc : ExB} {fe : Ex} {wi : TI} {g : TG} {tt : TT} {te : TE} (hns : ∀ j ∈ ns, j ∈ own) (hnd : own.Nodup)
    (hi : ∀ (env : Ev) (ds : List D) (env' : Ev), fi env = some (ds, env') → ∀ (G : Hp) (σ : St) (H : Hp) (L Lx : List Cell), RelS X.K G env σ L → Sep T G H (L ++ Lx) →
      ∀ R : It → Hp → Prop, (∀ (G' H' : Hp) (L' : List Cell) (J : It), Same G G' → RelS X.K G' env' σ L' → Sep T G' H' (L' ++ Lx) → WalkD X.K T J ds G' → R J H') → wi σ H R)
    (hg : ∀ (x : D) (env env' : Ev), t x env = some env' → ∀ (G : Hp) (σ : St) (H : Hp) (L Lx : List Cell) (v : V), Dp X.K G v x → RelS X.K G env σ L → Sep T G H (L ++ Lx) →
      ∀ Q : St → Hp → Prop, (∀ (σ' : St) (L' : List Cell), (∀ j, j ∉ ns → σ'[j]? = σ[j]?) → σ'.length = σ.length → RelS X.K G env' σ' L' → Sep T G H (L' ++ Lx) → Q σ' H) → g v σ H Q)
    (ht : BImp X T fc tt)
    (he : ∀ (env : Ev) (o : O) (env' : Ev), fe env = some (o, env') → ∀ (G : Hp) (σ : St) (H : Hp) (L Lx : List Cell), RelS X.K G env σ L → Sep T G H (L ++ Lx) → ∀ Q : VK, PostE X T Lx G σ o env' Q → te σ H Q)
    {env env' : Ev} {o : O} (hf : eComp own fi t fc fe env = some (o, env')) {G : Hp} {σ : St} {H : Hp} {L Lx : List Cell} (hR : RelS X.K G env σ L) (hS : Sep T G H (L ++ Lx)) {Q : VK} (hQ : PostE X T Lx G σ o env' Q) : tLc wi g tt te own σ H Q := by
  unfold eComp at hf
  obtain ⟨⟨ds, env1⟩, e1, hf⟩ := bind_eq hf
  simp only at hf
  split at hf
  · rename_i hlp
    obtain ⟨⟨zs, eF⟩, e2, hf⟩ := bind_eq hf
    cases hf
    refine hi env ds env1 e1 G σ H L Lx hR hS _ fun G1 H1 L1 J s1 R1 S1 wk => ?_
    intro Da hDa
    obtain ⟨Lw, Rw, sw⟩ := rel_wipe R1 own
    refine ⟨fun i m H2 => ∃ G2 L2 acc ys e rs, m + i = ds.length ∧ Same G1 G2 ∧ RelS X.K G2 e (wipe σ own) L2 ∧ Sep T G2 H2 ((Da, .lst acc) :: (L2 ++ Lx)) ∧ DpAll X.K G2 acc ys ∧ compLoop own t fc fe (ds.drop i) e = some (rs, eF) ∧ ys ++ rs = zs ∧ acc.length ≤ i, ⟨ds.length, ?_⟩, fun i m H2 hW => ?_⟩
    · exact ⟨G1, Lw, [], [], wipeE env1 own, zs, by simp, .refl _, Rw, (S1.sub sw.right).owned hDa, .nil, by simpa using e2, rfl, Nat.zero_le _⟩
    · obtain ⟨G2, L2, acc, ys, e, rs, hm, s2, R2, S2, da, cl, hz, hal⟩ := hW
      obtain ⟨w1, w2⟩ := wk i G2 H2 _ s2 S2
      by_cases hi' : i < ds.length
      · refine .inr ?_
        have hx : ds[i]? = some ds[i] := List.getElem?_eq_getElem hi'
        rw [List.drop_eq_getElem_cons hi'] at cl
        obtain ⟨go, yl⟩ := w1 _ hx
        unfold compLoop at cl
        obtain ⟨e3, q1, cl⟩ := bind_eq cl
        obtain ⟨⟨k, e4⟩, q2, cl⟩ := bind_eq cl
        refine ⟨go, fun H' => ∃ G' L' acc' ys' e' rs', m - 1 + (i + 1) = ds.length ∧ Same G1 G' ∧ RelS X.K G' e' (wipe σ own) L' ∧ Sep T G' H' ((Da, .lst acc') :: (L' ++ Lx)) ∧ DpAll X.K G' acc' ys' ∧ compLoop own t fc fe (ds.drop (i + 1)) e' = some (rs', eF) ∧ ys' ++ rs' = zs ∧ acc'.length ≤ i + 1, fun H' hN => ⟨m - 1, by omega, hN⟩, fun x H' hy => ?_⟩
        obtain ⟨G3, s3, dx, S3⟩ := yl x H' hy
        have S3' : Sep T G3 H' (L2 ++ ((Da, .lst acc) :: Lx)) := S3.sub (.perm (List.perm_middle.symm))
        refine hg _ e e3 q1 G3 (wipe σ own) H' L2 _ x dx (rel_mono s3 R2) S3' _ fun σ4 L4 k4 l4 R4 S4 => ?_
        have hwp : wipe σ4 own = wipe σ own := (wipe_of l4 fun j hj => k4 j fun z => hj (hns j z)).trans wipe_wipe
        refine ⟨hwp, ?_⟩
        refine ht e3 k e4 q2 G3 σ4 H' L4 _ R4 S4 _ fun G5 H5 L5 s5 R5 S5 => ?_
        have back : ∀ {G6 H6 : Hp} {L6 : List Cell} {e6 : Ev} {acc6 : List V}, RelS X.K G6 e6 σ4 L6 → Sep T G6 H6 (L6 ++ ((Da, .lst acc6) :: Lx)) → ∃ L7, RelS X.K G6 (wipeE e6 own) (wipe σ own) L7 ∧ Sep T G6 H6 ((Da, .lst acc6) :: (L7 ++ Lx)) := fun {G6 H6 L6 e6 acc6} r6 S6 => by
          obtain ⟨L7, a7, b7⟩ := rel_wipe r6 own
          rw [hwp] at a7
          exact ⟨L7, a7, (S6.sub b7.right).sub (.perm List.perm_middle)⟩
        cases k with
        | false =>
          simp only [Bool.false_eq_true, if_false] at cl ⊢
          obtain ⟨L7, a7, b7⟩ := back R5 S5
          exact ⟨G5, L7, acc, ys, wipeE e4 own, rs, by omega, (s2.trans s3).trans s5, a7, b7, dps_mono (s3.trans s5) _ _ da, cl, hz, by omega⟩
        | true =>
          simp only [if_true] at cl ⊢
          obtain ⟨⟨o6, e6⟩, q3, cl⟩ := bind_eq cl
          obtain ⟨y, q4, cl⟩ := bind_eq cl
          obtain ⟨⟨rs', eF'⟩, q5, cl⟩ := bind_eq cl
          cases cl
          refine he e4 o6 e6 q3 G5 σ4 H5 L5 _ R5 S5 _ fun G6 v6 H6 L6 Lo6 s6 ot6 R6 S6 => ?_
          obtain ⟨G7, m7, d7, S7⟩ := frz_of ot6 q4 S6
          have hat : H6 Da = some (.lst acc) := (S7.at_ _ (List.mem_append_right _ List.mem_cons_self)).1
          refine ⟨acc, hat, Nat.lt_of_le_of_lt (Nat.le_trans hal (by omega)) line_ge, ?_⟩
          have S8 : Sep T G7 (upd H6 Da (.lst (acc ++ [v6]))) ((Da, .lst (acc ++ [v6])) :: (L6 ++ Lx)) := (S7.sub (.perm List.perm_middle)).change
          obtain ⟨L9, a9, b9⟩ := back (rel_mono m7 R6) (S8.sub (.perm List.perm_middle.symm))
          exact ⟨G7, L9, acc ++ [v6], ys ++ [y], wipeE e6 own, rs', by omega, (((s2.trans s3).trans s5).trans s6).trans m7, a9, b9, dps_app (dps_mono (((s3.trans s5).trans s6).trans m7) _ _ da) (.cons d7 .nil), q5, by rw [List.append_assoc]; exact hz, by simp; omega⟩
      · refine .inl ⟨w2 (by omega), ?_⟩
        rw [List.drop_eq_nil_of_le (by omega)] at cl
        cases cl
        rw [List.append_nil] at hz
        subst hz
        obtain ⟨L9, a9, b9⟩ := rel_back own hnd hlp.2 (fun v x hv => by
          obtain ⟨u, c, h1, h2, _⟩ := rel_get R1 hv
          cases h2 with
          | d h2 => exact ⟨u, h1, dp_mono s2 _ _ h2⟩) R2
        exact hQ G2 (.ref Da) H2 L9 [(Da, .lst acc)] (s1.trans s2) (.l da) a9 (S2.sub ((b9.right).left (Lx := [(Da, .lst acc)])))
  · cases hf
/-- [elt for tg in iter] -/
theorem ev_comp {elt tg iter : Expr} {scope : Scope} {own : List (Str × Nat)} {fi : ExI} {ns : List Nat} {t : Tg} {fe : Ex} (hc : X.calm = true) (hN : X.N.Nodup) (ok : BlkOk X.N X.env.scope scope own) (hi : IV X T tg iter fi)
    (hg : ∀ (s : Shared) (H : Hp) (C : Addr) (cl : List (Str × Addr)) (fp : List Addr), GV (BlkX X scope s H C cl fp) T tg ns t)
    (he : ∀ (s : Shared) (H : Hp) (C : Addr) (cl : List (Str × Addr)) (fp : List Addr), EV (BlkX X scope s H C cl fp) T elt fe)
    (hns : ∀ j ∈ ns, j ∈ own.map (·.2) := by decide) (hnd : (own.map (·.2)).Nodup := by decide) (hs : ∀ x, foldedSetIterable iter X.env x = pure x := by intro _; rfl) : EV X T (.ListComp elt [⟨tg, iter, [], 0⟩] scope pos) (eComp (own.map (·.2)) fi t bYes fe) := by
  obtain ⟨wi, pi, hi⟩ := hi
  obtain ⟨g, pg, hg⟩ := blk_g hg
  obtain ⟨te, pe, he⟩ := blk_e he
  refine ⟨_, pe_lc hc hN pi ok pg (fun s H C cl fp => pts_nil) pe hs, fun env o env' hf G σ H L Lx hR hS Q hQ => ?_⟩
  exact comp_core hns hnd hi hg (fun env k env' h G σ H L Lx hR hS Q hQ => by
    cases h
    exact hQ G H L (.refl _) hR hS) he hf hR hS hQ
/-- [elt for tg in iter if c] -/
theorem ev_compIf {elt tg iter : Expr} {scope : Scope} {own : List (Str × Nat)} {fi : ExI} {ns : List Nat} {t : Tg} {fc : ExB} {fe : Ex} (hc : X.calm = true) (hN : X.N.Nodup) (ok : BlkOk X.N X.env.scope scope own) (hi : IV X T tg iter fi)
    (hg : ∀ (s : Shared) (H : Hp) (C : Addr) (cl : List (Str × Addr)) (fp : List Addr), GV (BlkX X scope s H C cl fp) T tg ns t)
    (ht : ∀ (s : Shared) (H : Hp) (C : Addr) (cl : List (Str × Addr)) (fp : List Addr), BV (BlkX X scope s H C cl fp) T c fc)
    (he : ∀ (s : Shared) (H : Hp) (C : Addr) (cl : List (Str × Addr)) (fp : List Addr), EV (BlkX X scope s H C cl fp) T elt fe)
    (hns : ∀ j ∈ ns, j ∈ own.map (·.2) := by decide) (hnd : (own.map (·.2)).Nodup := by decide) (hs : ∀ x, foldedSetIterable iter X.env x = pure x := by intro _; rfl) : EV X T (.ListComp elt [⟨tg, iter, [c], 0⟩] scope pos) (eComp (own.map (·.2)) fi t fc fe) := by
  obtain ⟨wi, pi, hi⟩ := hi
  obtain ⟨g, pg, hg⟩ := blk_g hg
  obtain ⟨tt, pt, ht⟩ := blk_b ht
  obtain ⟨te, pe, he⟩ := blk_e he
  refine ⟨_, pe_lc hc hN pi ok pg (fun s H C cl fp => pts_one (pt s H C cl fp)) pe hs, fun env o env' hf G σ H L Lx hR hS Q hQ => ?_⟩
  exact comp_core hns hnd hi hg ht he hf hR hS hQ
end
end Sh

/-! Shift layer 7: statements and defs. -/
namespace Sh
open PySem PySem.Spec PyProof.Rows L2
/-- what is wanted behind a statement -/
def PostS (X : Cx) (T : List Addr) (lk : Nat → Bool) (Lx : List Cell) (G : Hp) (σ : St) (D : Ends) : Out → Prop
  | .nx e => ∀ (G' : Hp) (σ' : St) (H' : Hp) (L' : List Cell), Same G G' → (∀ i, lk i = true → σ'[i]? = σ[i]?) → RelS X.K G' e σ' L' → Sep T G' H' (L' ++ Lx) → D.nx σ' H'
  | .bk e => ∀ (G' : Hp) (σ' : St) (H' : Hp) (L' : List Cell), Same G G' → (∀ i, lk i = true → σ'[i]? = σ[i]?) → RelS X.K G' e σ' L' → Sep T G' H' (L' ++ Lx) → D.bk σ' H'
  | .rt o e => ∀ (G' : Hp) (v : V) (σ' : St) (H' : Hp) (L' Lo : List Cell), Same G G' → (∀ i, lk i = true → σ'[i]? = σ[i]?) → OT X.K G' o v Lo → RelS X.K G' e σ' L' → Sep T G' H' (Lo ++ (L' ++ Lx)) → D.rt v H'
def SImp (X : Cx) (T : List Addr) (lk : Nat → Bool) (f : Sx) (t : TS) : Prop := ∀ (env : Ev) (r : Out), f env = some r → ∀ (G : Hp) (σ : St) (H : Hp) (L Lx : List Cell), RelS X.K G env σ L → Sep T G H (L ++ Lx) → ∀ D : Ends, PostS X T lk Lx G σ D r → t D σ H
def SV (X : Cx) (T : List Addr) (lk : Nat → Bool) (st : Stmt) (f : Sx) : Prop := ∃ t : TS, PS X st t ∧ SImp X T lk f t
def SVs (X : Cx) (T : List Addr) (lk : Nat → Bool) (st : List Stmt) (f : Sx) : Prop := ∃ t : TS, PSs X st t ∧ SImp X T lk f t
theorem PostS.from {X : Cx} {T : List Addr} {lk : Nat → Bool} {Lx : List Cell} {G G1 : Hp} {σ σ1 : St} {D : Ends} {r : Out} (h : PostS X T lk Lx G σ D r) (m : Same G G1) (k : ∀ i, lk i = true → σ1[i]? = σ[i]?) : PostS X T lk Lx G1 σ1 D r := by
  cases r with
  | nx e => exact fun G' σ' H' L' s1 k1 R S => h G' σ' H' L' (m.trans s1) (fun i hi => (k1 i hi).trans (k i hi)) R S
  | bk e => exact fun G' σ' H' L' s1 k1 R S => h G' σ' H' L' (m.trans s1) (fun i hi => (k1 i hi).trans (k i hi)) R S
  | rt o e => exact fun G' v σ' H' L' Lo s1 k1 ot R S => h G' v σ' H' L' Lo (m.trans s1) (fun i hi => (k1 i hi).trans (k i hi)) ot R S
section
variable {X : Cx} {T : List Addr} {lk : Nat → Bool} {a b c e : Expr} {pos : Pos} {st : Stmt} {rest sts sts2 : List Stmt}
theorem svs_nil : SVs X T lk [] sNil := ⟨_, pss_nil, fun env r hf G σ H L Lx hR hS D hD => by
  cases hf
  exact hD G σ H L (.refl _) (fun _ _ => rfl) hR hS⟩
theorem seq_imp {f1 f2 : Sx} {t u : TS} (h1 : SImp X T lk f1 t) (h2 : SImp X T lk f2 u) : SImp X T lk (sSeq f1 f2) (tSeq t u) := by
  intro env r hf G σ H L Lx hR hS D hD
  unfold sSeq at hf
  obtain ⟨o, e1, hf⟩ := bind_eq hf
  refine h1 env o e1 G σ H L Lx hR hS _ ?_
  cases o with
  | nx env1 => exact fun G1 σ1 H1 L1 s1 k1 R1 S1 => h2 env1 r hf G1 σ1 H1 L1 Lx R1 S1 D (hD.from s1 k1)
  | bk env1 =>
    cases hf
    exact hD
  | rt o env1 =>
    cases hf
    exact hD
theorem svs_cons {f1 f2 : Sx} (h1 : SV X T lk st f1) (h2 : SVs X T lk rest f2) : SVs X T lk (st :: rest) (sSeq f1 f2) := by
  obtain ⟨t, p, h1⟩ := h1
  obtain ⟨u, q, h2⟩ := h2
  exact ⟨_, pss_cons p q, seq_imp h1 h2⟩
theorem svs_one {f1 : Sx} (h1 : SV X T lk st f1) : SVs X T lk [st] f1 := by
  obtain ⟨t, p, h1⟩ := h1
  exact ⟨_, pss_one p, h1⟩
theorem oOwn_eq {o : O} {xs : List D} (h : oOwn o = some xs) : o = .l xs := by
  unfold oOwn at h
  split at h
  · cases h
    rfl
  · cases h
theorem lk_set {lk : Nat → Bool} {σ : St} {i : Nat} {x : Option V} (h : lk i = false) : ∀ j, lk j = true → (σ.set i x)[j]? = σ[j]? := fun j hj => by
  rw [List.getElem?_set_ne]
  rintro rfl
  rw [h] at hj
  cases hj
/-- x = e -/
theorem sv_set {x : Str} {p : Pos} {f : Ex} (i : Nat) (hN : X.N.Nodup) (he : EV X T e f) (hi : X.N[i]? = some x := by rfl) (hl : lk i = false := by rfl) (hx : Loc X.env.scope x := by first | exact Or.inl rfl | exact Or.inr rfl)
    (hs : swapsWith e (some (.Name x p)) pos.line X.env = pure false := by rfl) (hf : X.fn x = true ∨ X.env.scope.names.lookup x = some .local := by first | exact .inl rfl | exact .inr rfl) : SV X T lk (.Assign [.Name x p] e pos) (sSet i f) := by
  obtain ⟨t, pe, h⟩ := he
  refine ⟨_, ps_set hN hi hx pe hs hf, fun env r hf G σ H L Lx hR hS D hD => ?_⟩
  unfold sSet at hf
  obtain ⟨⟨o, env1⟩, e1, hf⟩ := bind_eq hf
  cases hf
  refine h env o env1 e1 G σ H L Lx hR hS _ fun G1 v H1 L1 Lo s1 ot R1 S1 => ?_
  obtain ⟨L', q1, q2⟩ := rel_put (j := i) R1 ot
  exact hD G1 (σ.set i (some v)) H1 L' s1 (lk_set hl) q1 (S1.sub (by rw [← List.append_assoc]; exact q2.right))
theorem sv_setF {x : Str} {p : Pos} {f : Ex} (i : Nat) (hN : X.N.Nodup) (he : EV X T e f) (hi : X.N[i]? = some x := by rfl) (hl : lk i = false := by rfl) (hx : Loc X.env.scope x := by first | exact Or.inl rfl | exact Or.inr rfl)
    (hs : swapsWith e (some (.Name x p)) pos.line X.env = pure false := by rfl) (hf : X.fn x = true ∨ X.env.scope.names.lookup x = some .local := by first | exact .inl rfl | exact .inr rfl) : SV X T lk (.Assign [.Name x p] e pos) (sSetF i f) := by
  obtain ⟨t, pe, h⟩ := he
  refine ⟨_, ps_set hN hi hx pe hs hf, fun env r hf G σ H L Lx hR hS D hD => ?_⟩
  unfold sSetF at hf
  obtain ⟨⟨o, env1⟩, e1, hf⟩ := bind_eq hf
  obtain ⟨y, e2, hf⟩ := bind_eq hf
  cases hf
  refine h env o env1 e1 G σ H L Lx hR hS _ fun G1 v H1 L1 Lo s1 ot R1 S1 => ?_
  obtain ⟨G2, m2, d2, S2⟩ := frz_of ot e2 S1
  obtain ⟨L', q1, q2⟩ := rel_put (j := i) (rel_mono m2 R1) (.d d2)
  exact hD G2 (σ.set i (some v)) H1 L' (s1.trans m2) (lk_set hl) q1 (S2.sub (Sub.right (by simpa using q2)))
theorem setc_imp {i : Nat} {fi : ExI} {own : List Nat} {t : Tg} {fc : ExB} {fe : Ex} {te : TE} (hl : lk i = false) (frzd : Bool)
    (h : ∀ {env env' : Ev} {o : O}, eComp own fi t fc fe env = some (o, env') → ∀ {G : Hp} {σ : St} {H : Hp} {L Lx : List Cell}, RelS X.K G env σ L → Sep T G H (L ++ Lx) → ∀ {Q : VK}, PostE X T Lx G σ o env' Q → te σ H Q) :
    SImp X T lk (if frzd then sSetF i (eComp own fi t fc fe) else sSet i (eComp own fi t fc fe)) (tAsg te (gName i)) := by
  intro env r hf G σ H L Lx hR hS D hD
  cases frzd with
  | false =>
    simp only [Bool.false_eq_true, if_false] at hf
    unfold sSet at hf
    obtain ⟨⟨o, env1⟩, e1, hf⟩ := bind_eq hf
    cases hf
    refine h e1 hR hS fun G1 v H1 L1 Lo s1 ot R1 S1 => ?_
    obtain ⟨L', q1, q2⟩ := rel_put (j := i) R1 ot
    exact hD G1 (σ.set i (some v)) H1 L' s1 (lk_set hl) q1 (S1.sub (by rw [← List.append_assoc]; exact q2.right))
  | true =>
    simp only [if_true] at hf
    unfold sSetF at hf
    obtain ⟨⟨o, env1⟩, e1, hf⟩ := bind_eq hf
    obtain ⟨y, e2, hf⟩ := bind_eq hf
    cases hf
    refine h e1 hR hS fun G1 v H1 L1 Lo s1 ot R1 S1 => ?_
    obtain ⟨G2, m2, d2, S2⟩ := frz_of ot e2 S1
    obtain ⟨L', q1, q2⟩ := rel_put (j := i) (rel_mono m2 R1) (.d d2)
    exact hD G2 (σ.set i (some v)) H1 L' (s1.trans m2) (lk_set hl) q1 (S2.sub (Sub.right (by simpa using q2)))
/-- y = [elt for tg in iter], y a local -/
theorem sv_setC {y : Str} {py spos : Pos} {elt tg iter : Expr} {scope : Scope} {own : List (Str × Nat)} {fi : ExI} {ns : List Nat} {t : Tg} {fe : Ex} (i : Nat) (frzd : Bool) (hc : X.calm = true) (hN : X.N.Nodup) (ok : BlkOk X.N X.env.scope scope own) (hi : IV X T tg iter fi)
    (hg : ∀ (s : Shared) (H : Hp) (C : Addr) (cl : List (Str × Addr)) (fp : List Addr), GV (BlkX X scope s H C cl fp) T tg ns t)
    (he : ∀ (s : Shared) (H : Hp) (C : Addr) (cl : List (Str × Addr)) (fp : List Addr), EV (BlkX X scope s H C cl fp) T elt fe)
    (hy : X.N[i]? = some y := by rfl) (hyl : X.env.scope.names.lookup y = some .local := by rfl) (hl : lk i = false := by rfl) (hsw : swapsWith (.ListComp elt [⟨tg, iter, [], 0⟩] scope pos) (some (.Name y py)) spos.line X.env = pure true := by exact sw_true rfl rfl rfl (by decide +kernel))
    (hns : ∀ j ∈ ns, j ∈ own.map (·.2) := by decide) (hnd : (own.map (·.2)).Nodup := by decide) (hs : ∀ x, foldedSetIterable iter X.env x = pure x := by intro _; rfl) : SV X T lk (.Assign [.Name y py] (.ListComp elt [⟨tg, iter, [], 0⟩] scope pos) spos) (if frzd then sSetF i (eComp (own.map (·.2)) fi t bYes fe) else sSet i (eComp (own.map (·.2)) fi t bYes fe)) := by
  obtain ⟨wi, pi, hi⟩ := hi
  obtain ⟨g, pg, hg⟩ := blk_g hg
  obtain ⟨te, pe, he⟩ := blk_e he
  refine ⟨_, ps_setLc hc hN hy hyl hsw pi ok pg (fun s H C cl fp => pts_nil) pe hs, setc_imp hl frzd fun {env env' o} hf {G σ H L Lx} hR hS {Q} hQ => ?_⟩
  exact comp_core hns hnd hi hg (fun env k env' h G σ H L Lx hR hS Q hQ => by
    cases h
    exact hQ G H L (.refl _) hR hS) he hf hR hS hQ
theorem sv_setCIf {y : Str} {py spos : Pos} {elt tg iter : Expr} {scope : Scope} {own : List (Str × Nat)} {fi : ExI} {ns : List Nat} {t : Tg} {fc : ExB} {fe : Ex} (i : Nat) (frzd : Bool) (hc : X.calm = true) (hN : X.N.Nodup) (ok : BlkOk X.N X.env.scope scope own) (hi : IV X T tg iter fi)
    (hg : ∀ (s : Shared) (H : Hp) (C : Addr) (cl : List (Str × Addr)) (fp : List Addr), GV (BlkX X scope s H C cl fp) T tg ns t)
    (ht : ∀ (s : Shared) (H : Hp) (C : Addr) (cl : List (Str × Addr)) (fp : List Addr), BV (BlkX X scope s H C cl fp) T c fc)
    (he : ∀ (s : Shared) (H : Hp) (C : Addr) (cl : List (Str × Addr)) (fp : List Addr), EV (BlkX X scope s H C cl fp) T elt fe)
    (hy : X.N[i]? = some y := by rfl) (hyl : X.env.scope.names.lookup y = some .local := by rfl) (hl : lk i = false := by rfl) (hsw : swapsWith (.ListComp elt [⟨tg, iter, [c], 0⟩] scope pos) (some (.Name y py)) spos.line X.env = pure true := by exact sw_true rfl rfl rfl (by decide +kernel))
    (hns : ∀ j ∈ ns, j ∈ own.map (·.2) := by decide) (hnd : (own.map (·.2)).Nodup := by decide) (hs : ∀ x, foldedSetIterable iter X.env x = pure x := by intro _; rfl) : SV X T lk (.Assign [.Name y py] (.ListComp elt [⟨tg, iter, [c], 0⟩] scope pos) spos) (if frzd then sSetF i (eComp (own.map (·.2)) fi t fc fe) else sSet i (eComp (own.map (·.2)) fi t fc fe)) := by
  obtain ⟨wi, pi, hi⟩ := hi
  obtain ⟨g, pg, hg⟩ := blk_g hg
  obtain ⟨tt, pt, ht⟩ := blk_b ht
  obtain ⟨te, pe, he⟩ := blk_e he
  refine ⟨_, ps_setLc hc hN hy hyl hsw pi ok pg (fun s H C cl fp => pts_one (pt s H C cl fp)) pe hs, setc_imp hl frzd fun {env env' o} hf {G σ H L Lx} hR hS {Q} hQ => ?_⟩
  exact comp_core hns hnd hi hg ht he hf hR hS hQ
/-- target = e -/
theorem sv_tg {tg : Expr} {f : Ex} {ns : List Nat} {t : Tg} (he : EV X T e f) (hg : GV X T tg ns t) (hl : ∀ j ∈ ns, lk j = false := by decide) (hs : swapsWithSole [tg] e pos.line X.env = pure false := by rfl) (hw : swappedStores [tg] e X.env = pure none := by rfl) (ha1 : (assignEach [tg] X.env).map (·.2) = [assign tg X.env] := by rfl) : SV X T lk (.Assign [tg] e pos) (sTg t f) := by
  obtain ⟨te, pe, h⟩ := he
  obtain ⟨g, pg, hg⟩ := hg
  refine ⟨_, ps_asg pe pg hs hw ha1, fun env r hf G σ H L Lx hR hS D hD => ?_⟩
  unfold sTg at hf
  obtain ⟨⟨o, env1⟩, e1, hf⟩ := bind_eq hf
  obtain ⟨y, e2, hf⟩ := bind_eq hf
  obtain ⟨env2, e3, hf⟩ := bind_eq hf
  cases hf
  refine h env o env1 e1 G σ H L Lx hR hS _ fun G1 v H1 L1 Lo s1 ot R1 S1 => ?_
  obtain ⟨G2, m2, d2, S2⟩ := frz_of ot e2 S1
  refine hg y env1 env2 e3 G2 σ H1 L1 Lx v d2 (rel_mono m2 R1) S2 _ fun σ3 L3 k3 l3 R3 S3 => ?_
  exact hD G2 σ3 H1 L3 (s1.trans m2) (fun i hi => k3 i fun z => by
    rw [hl i z] at hi
    cases hi) R3 S3
/-- x, y = a, b: plain local names -/
theorem sv_par2 {x y : Str} {px py pt pt2 : Pos} {kt k2 : Nat} {fa fb : Ex} (i j : Nat) (hc : X.calm = true) (hN : X.N.Nodup) (ha : EV X T a fa) (hb : EV X T b fb) (hi : X.N[i]? = some x := by rfl) (hj : X.N[j]? = some y := by rfl) (hij : i ≠ j := by decide)
    (hx : X.env.scope.names.lookup x = some .local := by rfl) (hy : X.env.scope.names.lookup y = some .local := by rfl) (hli : lk i = false := by rfl) (hlj : lk j = false := by rfl)
    (hw : swappedStores [.Tuple [.Name x px, .Name y py] kt pt] (.Tuple [a, b] k2 pt2) X.env = pure (some [x, y]) := by rfl) (hs : swapsWithSole [.Tuple [.Name x px, .Name y py] kt pt] (.Tuple [a, b] k2 pt2) pos.line X.env = pure false := by rfl)
    (hs1 : starEach [a, b] X.env = (false, eval a X.env) :: starEach [b] X.env := by rfl) (hs2 : starEach [b] X.env = (false, eval b X.env) :: starEach [] X.env := by rfl) :
    SV X T lk (.Assign [.Tuple [.Name x px, .Name y py] kt pt] (.Tuple [a, b] k2 pt2) pos) (sPar2 i j fa fb) := by
  obtain ⟨ta, pa, h1⟩ := ha
  obtain ⟨tb, pb, h2⟩ := hb
  refine ⟨_, ps_par hc hN hi hj hij hx hy (pa_cons pa (pa_cons pb pa_nil hs2) hs1) hw hs, fun env r hf G σ H L Lx hR hS D hD => ?_⟩
  unfold sPar2 at hf
  obtain ⟨⟨o1, env1⟩, e1, hf⟩ := bind_eq hf
  obtain ⟨⟨o2, env2⟩, e2, hf⟩ := bind_eq hf
  cases hf
  refine h1 env o1 env1 e1 G σ H L Lx hR hS _ fun G1 v1 H1 L1 Lo1 s1 ot1 R1 S1 => ?_
  refine h2 env1 o2 env2 e2 G1 σ H1 L1 (Lo1 ++ Lx) R1 S1.comm3 _ fun G2 v2 H2 L2 Lo2 s2 ot2 R2 S2 => ?_
  refine ⟨v1, v2, rfl, ?_⟩
  obtain ⟨L3, q1, q2⟩ := rel_put (j := i) R2 (ot_mono s2 ot1)
  obtain ⟨L4, q3, q4⟩ := rel_put (j := j) q1 ot2
  refine hD G2 _ H2 L4 (s1.trans s2) (fun n hn => by rw [lk_set hlj n hn, lk_set hli n hn]) q3 (S2.sub ?_)
  refine Sub.trans (L' := Lo2 ++ (Lo1 ++ (L2 ++ Lx))) (.perm ((List.perm_append_comm_assoc L2 Lo1 Lx).append_left Lo2)) ?_
  rw [← List.append_assoc Lo1, ← List.append_assoc]
  exact (Sub.trans q2.left q4).right
/-- x[i] = v -/
theorem sv_sub {x : Str} {i v : Expr} {p1 p2 : Pos} {fi fv : Ex} (j : Nat) (hv : EV X T v fv) (hi : EV X T i fi) (hN : X.N[j]? = some x := by rfl) (hvis : Vis X.env.scope x := by first | exact Or.inl rfl | exact Or.inr (Or.inl rfl) | exact Or.inr (Or.inr rfl)) (hd : (x == ("__debug__" : Str)) = false := by decide)
    (hcd : (x == ("__classdict__" : Str)) = false := by decide) (hs : swapsWithSole [.Subscript (.Name x p1) i p2] v pos.line X.env = pure false := by rfl) (hw : swappedStores [.Subscript (.Name x p1) i p2] v X.env = pure none := by rfl)
    (hps : ∀ {to ti : TE} {t : TSet}, PE X (.Name x p1) to → PE X i ti → PSet X t → PG X (.Subscript (.Name x p1) i p2) (L2.gSub to ti t) := by exact fun h1 h2 h3 => pg_sub h1 h2 h3) :
    SV X T lk (.Assign [.Subscript (.Name x p1) i p2] v pos) (sSub j fi fv) := by
  obtain ⟨tv, pv', h1⟩ := hv
  obtain ⟨ti, pi, h2⟩ := hi
  refine ⟨_, ps_asg pv' (hps (pe_var hN hvis hd hcd) pi set_list) hs hw, fun env r hf G σ H L Lx hR hS D hD => ?_⟩
  unfold sSub at hf
  obtain ⟨⟨o1, env1⟩, e1, hf⟩ := bind_eq hf
  obtain ⟨o0, e0, hf⟩ := bind_eq hf
  obtain ⟨⟨o2, env2⟩, e2, hf⟩ := bind_eq hf
  obtain ⟨o3, e3, hf⟩ := bind_eq hf
  obtain ⟨xs, e4, hf⟩ := bind_eq hf
  obtain ⟨y, e5, hf⟩ := bind_eq hf
  obtain ⟨k, e6, hf⟩ := bind_eq hf
  obtain ⟨n, e7, hf⟩ := bind_eq hf
  cases hf
  refine h1 env o1 env1 e1 G σ H L Lx hR hS _ fun G1 v1 H1 L1 Lo1 s1 ot1 R1 S1 => ?_
  obtain ⟨v0, c0, g1, g2, g3⟩ := rel_get R1 e0
  refine ⟨v0, g1, ?_⟩
  refine h2 env1 o2 env2 e2 G1 σ H1 L1 (Lo1 ++ Lx) R1 S1.comm3 _ fun G2 v2 H2 L2 Lo2 s2 ot2 R2 S2 => ?_
  obtain ⟨rfl, rfl, rfl⟩ := int_of ot2 e6
  have S2' : Sep T G2 H2 (Lo1 ++ (L2 ++ Lx)) := Sep.comm3 S2
  obtain ⟨G3, m3, d3, S3⟩ := frz_of (ot_mono s2 ot1) e5 S2'
  have ex := oOwn_eq e4
  subst ex
  obtain ⟨v3, c3, L3, f1, f2, f3, f4⟩ := rel_take R2 e3
  rw [g1] at f1
  cases f1
  cases f2 with
  | @l _ p vs dv =>
    have S4 : Sep T G3 H2 ((p, .lst vs) :: (L3 ++ Lx)) := S3.sub (.perm (by simpa using f3.append_right Lx))
    refine ⟨p, vs, k, n, rfl, rfl, (S4.at_ _ List.mem_cons_self).1, by rw [dps_len dv]; exact e7, ?_⟩
    have S5 := S4.change (o' := .lst (vs.set n v1))
    obtain ⟨L', q1, q2⟩ := rel_put_at (rel_mono m3 f4) slot_set_same g1 (.l (dps_set n (dps_mono m3 _ _ dv) d3))
    rw [List.set_set] at q1
    exact hD G3 σ _ L' ((s1.trans s2).trans m3) (fun _ _ => rfl) q1 (S5.sub (.perm (by simpa using (q2.append_right Lx).symm)))
/-- x.append(v) -/
theorem sv_app {x : Str} {v : Expr} {p1 p2 p3 : Pos} {fv : Ex} (j : Nat) (hv : EV X T v fv) (hN : X.N[j]? = some x := by rfl) (hvis : Vis X.env.scope x := by first | exact Or.inl rfl | exact Or.inr (Or.inl rfl) | exact Or.inr (Or.inr rfl)) (hd : (x == ("__debug__" : Str)) = false := by decide)
    (hcd : (x == ("__classdict__" : Str)) = false := by decide) (hs1 : starEach [v] X.env = (false, eval v X.env) :: starEach [] X.env := by rfl)
    (hp : ∀ {to : TE} {t : TA}, PE X (.Name x p1) to → PA X [v] t → PE X (.Call (.Attribute (.Name x p1) "append" p2) [v] [] p3) (tBM X.K "list" rAppend to t) := by exact fun h1 h2 => pe_bm PySem.F.plainAttrs_list PySem.F.slot_list_append PySem.F.type_list_append mt_append h1 h2)
    (hs : swapsWith (.Call (.Attribute (.Name x p1) "append" p2) [v] [] p3) none pos.line X.env = pure false := by rfl) : SV X T lk (.Expr (.Call (.Attribute (.Name x p1) "append" p2) [v] [] p3) pos) (sApp j fv) := by
  obtain ⟨tv, pv', h1⟩ := hv
  refine ⟨_, ps_expr (hp (pe_var hN hvis hd hcd) (pa_cons pv' pa_nil hs1)) hs, fun env r hf G σ H L Lx hR hS D hD => ?_⟩
  unfold sApp at hf
  obtain ⟨o0, e0, hf⟩ := bind_eq hf
  obtain ⟨xs0, e00, hf⟩ := bind_eq hf
  obtain ⟨⟨o1, env1⟩, e1, hf⟩ := bind_eq hf
  obtain ⟨o3, e3, hf⟩ := bind_eq hf
  obtain ⟨xs, e4, hf⟩ := bind_eq hf
  obtain ⟨y, e5, hf⟩ := bind_eq hf
  split at hf
  · rename_i hl
    cases hf
    have ex0 := oOwn_eq e00
    subst ex0
    have ex := oOwn_eq e4
    subst ex
    obtain ⟨v0, c0, g1, g2, g3⟩ := rel_get hR e0
    cases g2 with
    | @l _ p vs0 dv0 =>
      refine ⟨.ref p, g1, .inl ⟨rfl, _, .inl (.inl (hS.at_ _ (List.mem_append_left _ (g3 _ List.mem_cons_self))).1)⟩, ?_⟩
      refine h1 env o1 env1 e1 G σ H L Lx hR hS _ fun G1 v1 H1 L1 Lo1 s1 ot1 R1 S1 => ?_
      obtain ⟨G3, m3, d3, S3⟩ := frz_of ot1 e5 S1
      obtain ⟨v3, c3, L3, f1, f2, f3, f4⟩ := rel_take R1 e3
      rw [g1] at f1
      cases f1
      cases f2 with
      | @l _ p vs dv =>
        have S4 : Sep T G3 H1 ((p, .lst vs) :: (L3 ++ Lx)) := S3.sub (.perm (by simpa using f3.append_right Lx))
        refine ⟨p, vs, v1, rfl, rfl, (S4.at_ _ List.mem_cons_self).1, by rw [dps_len dv]; exact Nat.lt_trans hl line_ge, ?_⟩
        have S5 := S4.change (o' := .lst (vs ++ [v1]))
        obtain ⟨L', q1, q2⟩ := rel_put_at (rel_mono m3 f4) slot_set_same g1 (.l (dps_app (dps_mono m3 _ _ dv) (.cons d3 .nil)))
        rw [List.set_set] at q1
        exact hD G3 σ _ L' (s1.trans m3) (fun _ _ => rfl) q1 (S5.sub (.perm (by simpa using (q2.append_right Lx).symm)))
  · cases hf
theorem sv_expr {f : Ex} (he : EV X T e f) (hs : swapsWith e none pos.line X.env = pure false := by rfl) : SV X T lk (.Expr e pos) (sExpr f) := by
  obtain ⟨t, p, h⟩ := he
  refine ⟨_, ps_expr p hs, fun env r hf G σ H L Lx hR hS D hD => ?_⟩
  unfold sExpr at hf
  obtain ⟨⟨o, env1⟩, e1, hf⟩ := bind_eq hf
  cases hf
  exact h env o env1 e1 G σ H L Lx hR hS _ fun G1 v H1 L1 Lo s1 ot R1 S1 => hD G1 σ H1 L1 s1 (fun _ _ => rfl) R1 (S1.sub .drop)
theorem sv_ret {f : Ex} (he : EV X T e f) : SV X T lk (.Return (some e) pos) (sRet f) := by
  obtain ⟨t, p, h⟩ := he
  refine ⟨_, ps_ret p, fun env r hf G σ H L Lx hR hS D hD => ?_⟩
  unfold sRet at hf
  obtain ⟨⟨o, env1⟩, e1, hf⟩ := bind_eq hf
  cases hf
  exact h env o env1 e1 G σ H L Lx hR hS _ fun G1 v H1 L1 Lo s1 ot R1 S1 => hD G1 v σ H1 L1 Lo s1 (fun _ _ => rfl) ot R1 S1
/-- return x, an owned list -/
theorem sv_retS {x : Str} {p : Pos} (j : Nat) (hN : X.N[j]? = some x := by rfl) (hv : Vis X.env.scope x := by first | exact Or.inl rfl | exact Or.inr (Or.inl rfl) | exact Or.inr (Or.inr rfl)) (hd : (x == ("__debug__" : Str)) = false := by decide)
    (hcd : (x == ("__classdict__" : Str)) = false := by decide) : SV X T lk (.Return (some (.Name x p)) pos) (sRetS j) := by
  refine ⟨_, ps_ret (pe_var hN hv hd hcd), fun env r hf G σ H L Lx hR hS D hD => ?_⟩
  unfold sRetS at hf
  obtain ⟨o, e1, hf⟩ := bind_eq hf
  cases hf
  obtain ⟨v, c, Lr, f1, f2, f3, f4⟩ := rel_take hR e1
  exact ⟨v, f1, hD G v σ H Lr c (.refl _) (fun _ _ => rfl) f2 f4 (hS.sub (.perm (by simpa using f3.append_right Lx)))⟩
theorem sv_if {fc : ExB} {f1 f2 : Sx} (hc : BV X T c fc) (h1 : SVs X T lk sts f1) (h2 : SVs X T lk sts2 f2) : SV X T lk (.If c sts sts2 pos) (sIf fc f1 f2) := by
  obtain ⟨t, p, h⟩ := hc
  obtain ⟨t1, p1, h1⟩ := h1
  obtain ⟨t2, p2, h2⟩ := h2
  refine ⟨_, ps_if p p1 p2, fun env r hf G σ H L Lx hR hS D hD => ?_⟩
  unfold sIf at hf
  obtain ⟨⟨k, env1⟩, e1, hf⟩ := bind_eq hf
  refine h env k env1 e1 G σ H L Lx hR hS _ fun G1 H1 L1 s1 R1 S1 => ?_
  cases k with
  | true =>
    simp only [if_true] at hf ⊢
    exact h1 env1 r hf G1 σ H1 L1 Lx R1 S1 D (hD.from s1 fun _ _ => rfl)
  | false =>
    simp only [Bool.false_eq_true, if_false] at hf ⊢
    exact h2 env1 r hf G1 σ H1 L1 Lx R1 S1 D (hD.from s1 fun _ _ => rfl)
theorem sv_brk : SV X T lk (.Break pos) sBrk := ⟨_, ps_break, fun env r hf G σ H L Lx hR hS D hD => by
  cases hf
  exact hD G σ H L (.refl _) (fun _ _ => rfl) hR hS⟩
theorem sv_pass : SV X T lk (.Pass pos) sNil := ⟨_, ps_pass, fun env r hf G σ H L Lx hR hS D hD => by
  cases hf
  exact hD G σ H L (.refl _) (fun _ _ => rfl) hR hS⟩
/-- a row that is never come to -/
theorem sv_nev : SV X T lk st sNev := ⟨_, ps_never, fun env r hf => by cases hf⟩
theorem sv_while {fc : ExB} {f : Sx} (n : Nat) (hp : PassesOwn (model X.prog X.w) X.A X.env X.xe) (hc : BV X T c fc) (hb : SVs X T lk sts f) : SV X T lk (.While c sts [] pos) (sWhile n fc f) := by
  obtain ⟨t, p, h⟩ := hc
  obtain ⟨t1, p1, h1⟩ := hb
  refine ⟨_, ps_while hp p p1, fun env r hf G σ H L Lx hR hS D hD => ?_⟩
  unfold sWhile at hf
  refine ⟨fun m σ2 H2 => ∃ G2 L2 e, Same G G2 ∧ (∀ i, lk i = true → σ2[i]? = σ[i]?) ∧ RelS X.K G2 e σ2 L2 ∧ Sep T G2 H2 (L2 ++ Lx) ∧ whileLoop fc f m e = some r, ⟨n, G, L, env, .refl _, fun _ _ => rfl, hR, hS, hf⟩, fun m σ2 H2 hW => ?_⟩
  obtain ⟨G2, L2, e, s2, k2, R2, S2, hf⟩ := hW
  cases m with
  | zero => cases hf
  | succ m =>
    unfold whileLoop at hf
    obtain ⟨⟨k, e1⟩, q1, hf⟩ := bind_eq hf
    refine h e k e1 q1 G2 σ2 H2 L2 Lx R2 S2 _ fun G3 H3 L3 s3 R3 S3 => ?_
    cases k with
    | false =>
      simp only [Bool.false_eq_true, if_false] at hf ⊢
      cases hf
      exact hD G3 σ2 H3 L3 (s2.trans s3) k2 R3 S3
    | true =>
      simp only [if_true] at hf ⊢
      obtain ⟨o, q2, hf⟩ := bind_eq hf
      refine ⟨fun σ' H' => ∃ G' L' e', Same G G' ∧ (∀ i, lk i = true → σ'[i]? = σ[i]?) ∧ RelS X.K G' e' σ' L' ∧ Sep T G' H' (L' ++ Lx) ∧ whileLoop fc f m e' = some r, fun σ' H' z => ⟨m, Nat.lt_succ_self m, z⟩, ?_⟩
      refine h1 e1 o q2 G3 σ2 H3 L3 Lx R3 S3 _ ?_
      cases o with
      | nx e4 => exact fun G4 σ4 H4 L4 s4 k4 R4 S4 => ⟨G4, L4, e4, (s2.trans s3).trans s4, fun i hi => (k4 i hi).trans (k2 i hi), R4, S4, hf⟩
      | bk e4 =>
        cases hf
        exact fun G4 σ4 H4 L4 s4 k4 R4 S4 => hD G4 σ4 H4 L4 ((s2.trans s3).trans s4) (fun i hi => (k4 i hi).trans (k2 i hi)) R4 S4
      | rt o4 e4 =>
        cases hf
        exact fun G4 v4 σ4 H4 L4 Lo4 s4 k4 ot4 R4 S4 => hD G4 v4 σ4 H4 L4 Lo4 ((s2.trans s3).trans s4) (fun i hi => (k4 i hi).trans (k2 i hi)) ot4 R4 S4
theorem sv_for {tg iter : Expr} {fi : ExI} {ns : List Nat} {t : Tg} {f : Sx} (hp : PassesOwn (model X.prog X.w) X.A X.env X.xe) (hc : X.calm = true) (hi : IV X T tg iter fi) (hg : GV X T tg ns t) (hb : SVs X T lk sts f) (hl : ∀ j ∈ ns, lk j = false := by decide) (hs : ∀ x, foldedSetIterable iter X.env x = pure x := by intro _; rfl) :
    SV X T lk (.For tg iter sts [] pos) (sFor fi t f) := by
  obtain ⟨wi, pi, hi⟩ := hi
  obtain ⟨g, pg, hg⟩ := hg
  obtain ⟨t1, p1, h1⟩ := hb
  refine ⟨_, ps_for hp hc pi pg p1 hs, fun env r hf G σ H L Lx hR hS D hD => ?_⟩
  unfold sFor at hf
  obtain ⟨⟨ds, env1⟩, e1, hf⟩ := bind_eq hf
  refine hi env ds env1 e1 G σ H L Lx hR hS _ fun G1 H1 L1 J s1 R1 S1 wk => ?_
  refine ⟨fun i m σ2 H2 => ∃ G2 L2 e, m + i = ds.length ∧ Same G1 G2 ∧ (∀ i, lk i = true → σ2[i]? = σ[i]?) ∧ RelS X.K G2 e σ2 L2 ∧ Sep T G2 H2 (L2 ++ Lx) ∧ forLoop t f (ds.drop i) e = some r, ⟨ds.length, G1, L1, env1, by simp, .refl _, fun _ _ => rfl, R1, S1, by simpa using hf⟩, fun i m σ2 H2 hW => ?_⟩
  obtain ⟨G2, L2, e, hm, s2, k2, R2, S2, hf⟩ := hW
  obtain ⟨w1, w2⟩ := wk i G2 H2 _ s2 S2
  by_cases hi' : i < ds.length
  · refine .inr ?_
    have hx : ds[i]? = some ds[i] := List.getElem?_eq_getElem hi'
    rw [List.drop_eq_getElem_cons hi'] at hf
    obtain ⟨go, yl⟩ := w1 _ hx
    unfold forLoop at hf
    obtain ⟨e3, q1, hf⟩ := bind_eq hf
    obtain ⟨o, q2, hf⟩ := bind_eq hf
    refine ⟨go, fun σ' H' => ∃ G' L' e', m - 1 + (i + 1) = ds.length ∧ Same G1 G' ∧ (∀ i, lk i = true → σ'[i]? = σ[i]?) ∧ RelS X.K G' e' σ' L' ∧ Sep T G' H' (L' ++ Lx) ∧ forLoop t f (ds.drop (i + 1)) e' = some r, fun σ' H' hN => ⟨m - 1, by omega, hN⟩, fun x H' hy => ?_⟩
    obtain ⟨G3, s3, dx, S3⟩ := yl x H' hy
    refine hg _ e e3 q1 G3 σ2 H' L2 Lx x dx (rel_mono s3 R2) S3 _ fun σ4 L4 k4 l4 R4 S4 => ?_
    have k4' : ∀ i, lk i = true → σ4[i]? = σ[i]? := fun j hj => (k4 j fun z => by
      rw [hl j z] at hj
      cases hj).trans (k2 j hj)
    refine h1 e3 o q2 G3 σ4 H' L4 Lx R4 S4 _ ?_
    cases o with
    | nx e5 => exact fun G5 σ5 H5 L5 s5 k5 R5 S5 => ⟨G5, L5, e5, by omega, (s2.trans s3).trans s5, fun j hj => (k5 j hj).trans (k4' j hj), R5, S5, hf⟩
    | bk e5 =>
      cases hf
      exact fun G5 σ5 H5 L5 s5 k5 R5 S5 => hD G5 σ5 H5 L5 (((s1.trans s2).trans s3).trans s5) (fun j hj => (k5 j hj).trans (k4' j hj)) R5 S5
    | rt o5 e5 =>
      cases hf
      exact fun G5 v5 σ5 H5 L5 Lo5 s5 k5 ot5 R5 S5 => hD G5 v5 σ5 H5 L5 Lo5 (((s1.trans s2).trans s3).trans s5) (fun j hj => (k5 j hj).trans (k4' j hj)) ot5 R5 S5
  · refine .inl ⟨w2 (by omega), ?_⟩
    rw [List.drop_eq_nil_of_le (by omega)] at hf
    cases hf
    exact hD G2 σ2 H2 L2 (s1.trans s2) k2 R2 S2

/-! ### defs -/
theorem fins_len {lk : Nat → Bool} {e : Ev} : ∀ n, (fins lk e n).length = n
  | 0 => rfl
  | n + 1 => by
    unfold fins
    rw [List.length_append, fins_len n]
    rfl
end
section
variable {K : PySem.W.Frag} {T : List Addr} {G : Hp}
theorem rel_app {e1 e2 : Ev} {σ1 σ2 : St} {L1 L2 : List Cell} (h1 : RelS K G e1 σ1 L1) (h2 : RelS K G e2 σ2 L2) : RelS K G (e1 ++ e2) (σ1 ++ σ2) (L1 ++ L2) := by
  induction h1 with
  | nil => exact h2
  | none _ ih => exact .none ih
  | some h _ ih =>
    rw [List.append_assoc]
    exact .some h ih
theorem rel_nones : ∀ (n : Nat) (σ : St), σ.length = n → RelS K G (List.replicate n none) σ []
  | 0, [], _ => .nil
  | n + 1, x :: σ, h => .none (rel_nones n σ (by simpa using h))
/-- what the locked parameters hold at the end -/
theorem fins_rel {lk : Nat → Bool} {vs : List V} : ∀ (n : Nat) {e : Ev} {σ : St} {L : List Cell}, RelS K G e σ L → n ≤ vs.length → (∀ i, i < n → lk i = true → σ[i]? = some (vs[i]?)) →
    ∃ Lf Lr e', RelS K G (fins lk e n) ((vs.take n).map some) Lf ∧ RelS K G e' σ Lr ∧ L.Perm (Lf ++ Lr) ∧ ∀ i, n ≤ i → slot e' i = slot e i
  | 0, e, σ, L, h, _, _ => ⟨[], L, e, by simpa [fins] using RelS.nil, h, .refl _, fun _ _ => rfl⟩
  | n + 1, e, σ, L, h, hl, hk => by
    obtain ⟨Lf, Lr, e', a, b, p, q⟩ := fins_rel n h (by omega) fun i hi => hk i (by omega)
    have hv : vs[n]? = some vs[n] := List.getElem?_eq_getElem (by omega)
    have ht : (vs.take (n + 1)).map some = (vs.take n).map some ++ [some vs[n]] := by
      rw [List.take_add_one, hv, List.map_append]
      rfl
    unfold fins
    rw [ht]
    by_cases hlk : lk n = true
    · rw [if_pos hlk]
      cases hs : slot e n with
      | none =>
        refine ⟨Lf ++ [], Lr, e', rel_app a (.none .nil), b, by simpa using p, fun i hi => q i (by omega)⟩
      | some o =>
        have hs' : slot e' n = some o := by rw [q n (Nat.le_refl _), hs]
        obtain ⟨v, c, Lr', f1, f2, f3, f4⟩ := rel_take b hs'
        have hσ := hk n (by omega) hlk
        rw [f1, hv] at hσ
        cases hσ
        refine ⟨Lf ++ (c ++ []), Lr', e'.set n none, rel_app a (.some f2 .nil), f4, ?_, fun i hi => ?_⟩
        · rw [List.append_nil, List.append_assoc]
          exact p.trans (f3.append_left Lf)
        · rw [slot_set_ne (by omega)]
          exact q i (by omega)
    · rw [if_neg hlk]
      exact ⟨Lf ++ [], Lr, e', rel_app a (.none .nil), b, by simpa using p, fun i hi => q i (by omega)⟩
end
section
variable {P : Program} {w : World} {K : PySem.W.Frag} {mg : Str → Option Value} {base : Heap} {T : List Addr}
/-- a def keeps its promise: by its body's judgement -/
theorem def_ok {x qual : Str} {st : Stmt} {f : Addr} {fd : FuncData} {N ps : List Str} {k : Nat} {lk : Nat → Bool} {body : Sx} (F : L2.Fun K x qual st f fd) (S : FnScope N ps (defScope st)) (hlk : ∀ i, ps.length ≤ i → lk i = false)
    (hbody : ∀ (cdv : Value) (A : Around) (outer : List Env) (s : Shared) (H : Hp) (E : XK), Room k (A.deeper (envOfC qual (defScope st) s.heap.objs.size f cdv)) → SVs (cxOf CX0 P w K mg base N qual (defScope st) f cdv A outer s H E).nox T lk (defBody st) body) :
    FnOk P w K mg base CX0 (k + 1) f fd ps (spD K T (runDef N.length ps.length lk body)) := by
  have hlen : ∀ {os : List O} {r : O × List (Option O)}, runDef N.length ps.length lk body os = some r → os.length = ps.length := fun {os r} h => by
    unfold runDef at h
    split at h
    · assumption
    · cases h
  refine F.ok S (fun vs H Q E h => ?_) (fun cdv A outer s H vs Q E hr h => ?_)
  · obtain ⟨G, os, cs, Lx, r, fs, hR, hS, hF, _⟩ := h
    have := rel_len hR
    simp only [List.length_map] at this
    rw [← this]
    exact hlen hF
  · obtain ⟨G, os, cs, Lx, r, fs, hR, hS, hF, hQ⟩ := h
    have hl := hlen hF
    have hlv : vs.length = ps.length := by
      have := rel_len hR
      simp only [List.length_map] at this
      omega
    have hN : ps.length ≤ N.length := by
      have := congrArg List.length S.pre
      rw [List.length_take] at this
      omega
    obtain ⟨t, p, h⟩ := hbody cdv A outer s H E hr
    refine ⟨t, p, ?_⟩
    unfold runDef at hF
    rw [if_pos hl] at hF
    obtain ⟨o, e1, hF⟩ := bind_eq hF
    have R0 : RelS K G (os.map some ++ List.replicate (N.length - ps.length) none) (L2.start N vs) (cs ++ []) := by
      unfold L2.start
      rw [hlv]
      exact rel_app hR (rel_nones _ _ (by simp))
    rw [List.append_nil] at R0
    have lock : ∀ {σ' : St}, (∀ i, lk i = true → σ'[i]? = (L2.start N vs)[i]?) → ∀ i, i < ps.length → lk i = true → σ'[i]? = some (vs[i]?) := fun {σ'} hk i hi hlki => by
      rw [hk i hlki]
      unfold L2.start
      rw [List.getElem?_append_left (by simp; omega), List.getElem?_map, List.getElem?_eq_getElem (by omega)]
      rfl
    refine h _ o e1 G (L2.start N vs) H cs Lx R0 hS _ ?_
    cases o with
    | bk e => cases hF
    | nx e =>
      cases hF
      intro G' σ' H' L' s1 k1 R1 S1
      obtain ⟨Lf, Lr, e', a, b, c, _⟩ := fins_rel (lk := lk) (vs := vs) ps.length R1 (by omega) (lock k1)
      rw [show vs.take ps.length = vs by rw [← hlv]; exact List.take_length] at a
      exact hQ G' .non H' [] Lf s1 (.d .non) a (S1.sub (Sub.right (Sub.trans (.perm c) .dropR)))
    | rt r' e =>
      cases hF
      intro G' v σ' H' L' Lo s1 k1 ot R1 S1
      obtain ⟨Lf, Lr, e', a, b, c, _⟩ := fins_rel (lk := lk) (vs := vs) ps.length R1 (by omega) (lock k1)
      rw [show vs.take ps.length = vs by rw [← hlv]; exact List.take_length] at a
      exact hQ G' v H' Lo Lf s1 ot a (S1.sub ((Sub.right (Sub.trans (.perm c) .dropR)).left))
end
end Sh

/-! Shift layer 8: several targets at once. -/
namespace Sh
open PySem PySem.Spec PyProof.Rows L2
section
variable {X : Cx} {T : List Addr} {lk : Nat → Bool} {a b c e : Expr} {pos : Pos} {st : Stmt} {rest sts sts2 : List Stmt} {es : List Expr}
theorem ev_fr {f : Ex} (he : EV X T e f) : EV X T e (eFr f) := by
  obtain ⟨t, p, h⟩ := he
  refine ⟨t, p, fun env o env' hf G σ H L Lx hR hS Q hQ => ?_⟩
  unfold eFr at hf
  obtain ⟨⟨o1, env1⟩, e1, hf⟩ := bind_eq hf
  obtain ⟨y, e2, hf⟩ := bind_eq hf
  cases hf
  refine h env o1 env1 e1 G σ H L Lx hR hS _ fun G1 v H1 L1 Lo s1 ot R1 S1 => ?_
  obtain ⟨G2, m2, d2, S2⟩ := frz_of ot e2 S1
  exact hQ G2 v H1 L1 [] (s1.trans m2) (.d d2) (rel_mono m2 R1) S2
def GO (X : Cx) (T : List Addr) (lk : Nat → Bool) (tg : Expr) (t : TgO) : Prop := ∃ g : TG, PG X tg g ∧ ∀ (o : O) (env env' : Ev), t o env = some env' → ∀ (G : Hp) (σ : St) (H : Hp) (L Lx : List Cell) (v : V) (c : List Cell), OT X.K G o v c → RelS X.K G env σ L → Sep T G H (c ++ (L ++ Lx)) →
  ∀ Q : St → Hp → Prop, (∀ (G' : Hp) (σ' : St) (H' : Hp) (L' : List Cell), Same G G' → (∀ i, lk i = true → σ'[i]? = σ[i]?) → RelS X.K G' env' σ' L' → Sep T G' H' (L' ++ Lx) → Q σ' H') → g v σ H Q
def GOs (X : Cx) (T : List Addr) (lk : Nat → Bool) (tgs : List Expr) (ts : List TgO) : Prop := ∃ g : TGs, PGs X tgs g ∧ ∀ (os : List O) (env env' : Ev), asgAll ts os env = some env' → ∀ (G : Hp) (σ σ0 : St) (H : Hp) (L Lx : List Cell) (vs : List V) (own : List (Option Nat)) (e0 : Ev) (Lo : List Cell), ArgR X.K G σ0 e0 own os vs Lo → (∀ x ∈ own, x = none) → RelS X.K G env σ L → Sep T G H (Lo ++ (L ++ Lx)) →
  ∀ Q : St → Hp → Prop, (∀ (G' : Hp) (σ' : St) (H' : Hp) (L' : List Cell), Same G G' → (∀ i, lk i = true → σ'[i]? = σ[i]?) → RelS X.K G' env' σ' L' → Sep T G' H' (L' ++ Lx) → Q σ' H') → g vs σ H Q
theorem go_name {x : Str} (i : Nat) (hN : X.N.Nodup) (hi : X.N[i]? = some x := by rfl) (hl : lk i = false := by rfl) (hx : Loc X.env.scope x := by first | exact Or.inl rfl | exact Or.inr rfl) (hf : X.fn x = true ∨ X.env.scope.names.lookup x = some .local := by first | exact .inl rfl | exact .inr rfl) : GO X T lk (.Name x pos) (oName i) := by
  refine ⟨gName i, pg_name hN hi hx hf, fun o env env' ht G σ H L Lx v c ot hR hS Q hQ => ?_⟩
  cases ht
  obtain ⟨L', a, b⟩ := rel_put (j := i) hR ot
  exact hQ G _ H L' (.refl _) (lk_set hl) a (hS.sub (by rw [← List.append_assoc]; exact b.right))
theorem go_tg {tg : Expr} {ns : List Nat} {t : Tg} (h : GV X T tg ns t) (hl : ∀ j ∈ ns, lk j = false := by decide) : GO X T lk tg (oTg t) := by
  obtain ⟨g, p, h⟩ := h
  refine ⟨g, p, fun o env env' ht G σ H L Lx v c ot hR hS Q hQ => ?_⟩
  unfold oTg at ht
  obtain ⟨y, e2, ht⟩ := bind_eq ht
  obtain ⟨G2, m2, d2, S2⟩ := frz_of ot e2 hS
  exact h y env env' ht G2 σ H L Lx v d2 (rel_mono m2 hR) S2 Q fun σ' L' k l R S => hQ G2 σ' H L' m2 (fun i hi => k i fun z => by
    rw [hl i z] at hi
    cases hi) R S
theorem go_sub {x : Str} {i : Expr} {p1 p2 : Pos} {fi : Ex} (j : Nat) (hi : EV X T i fi) (hN : X.N[j]? = some x := by rfl) (hvis : Vis X.env.scope x := by first | exact Or.inl rfl | exact Or.inr (Or.inl rfl) | exact Or.inr (Or.inr rfl)) (hd : (x == ("__debug__" : Str)) = false := by decide)
    (hcd : (x == ("__classdict__" : Str)) = false := by decide)
    (hps : ∀ {to ti : TE} {t : TSet}, PE X (.Name x p1) to → PE X i ti → PSet X t → PG X (.Subscript (.Name x p1) i p2) (L2.gSub to ti t) := by exact fun h1 h2 h3 => pg_sub h1 h2 h3) : GO X T lk (.Subscript (.Name x p1) i p2) (oSub j fi) := by
  obtain ⟨ti, pi, h2⟩ := hi
  refine ⟨_, hps (pe_var hN hvis hd hcd) pi set_list, fun o env env' hf G σ H L Lx v c ot hR hS Q hQ => ?_⟩
  unfold oSub at hf
  obtain ⟨o0, e0, hf⟩ := bind_eq hf
  obtain ⟨⟨o2, env2⟩, e2, hf⟩ := bind_eq hf
  obtain ⟨o3, e3, hf⟩ := bind_eq hf
  obtain ⟨xs, e4, hf⟩ := bind_eq hf
  obtain ⟨y, e5, hf⟩ := bind_eq hf
  obtain ⟨k, e6, hf⟩ := bind_eq hf
  obtain ⟨n, e7, hf⟩ := bind_eq hf
  cases hf
  obtain ⟨v0, c0, g1, g2, g3⟩ := rel_get hR e0
  refine ⟨v0, g1, ?_⟩
  refine h2 env o2 env2 e2 G σ H L (c ++ Lx) hR hS.comm3 _ fun G2 v2 H2 L2 Lo2 s2 ot2 R2 S2 => ?_
  obtain ⟨rfl, rfl, rfl⟩ := int_of ot2 e6
  have S2' : Sep T G2 H2 (c ++ (L2 ++ Lx)) := Sep.comm3 S2
  obtain ⟨G3, m3, d3, S3⟩ := frz_of (ot_mono s2 ot) e5 S2'
  have ex := oOwn_eq e4
  subst ex
  obtain ⟨v3, c3, L3, f1, f2, f3, f4⟩ := rel_take R2 e3
  rw [g1] at f1
  cases f1
  cases f2 with
  | @l _ p vs dv =>
    have S4 : Sep T G3 H2 ((p, .lst vs) :: (L3 ++ Lx)) := S3.sub (.perm (by simpa using f3.append_right Lx))
    refine ⟨p, vs, k, n, rfl, rfl, (S4.at_ _ List.mem_cons_self).1, by rw [dps_len dv]; exact e7, ?_⟩
    have S5 := S4.change (o' := .lst (vs.set n v))
    obtain ⟨L', q1, q2⟩ := rel_put_at (rel_mono m3 f4) slot_set_same g1 (.l (dps_set n (dps_mono m3 _ _ dv) d3))
    rw [List.set_set] at q1
    exact hQ G3 σ _ L' (s2.trans m3) (fun _ _ => rfl) q1 (S5.sub (.perm (by simpa using (q2.append_right Lx).symm)))
theorem gos_nil : GOs X T lk [] [] := by
  refine ⟨_, pgs_nil, fun os env env' ht G σ σ0 H L Lx vs own e0 Lo ar hn hR hS Q hQ => ?_⟩
  cases ar with
  | nil =>
    cases ht
    exact ⟨rfl, hQ G σ H L (.refl _) (fun _ _ => rfl) hR hS⟩
  | v _ _ => cases ht
  | s _ _ _ => cases ht
theorem gos_cons {tgs : List Expr} {t : TgO} {ts : List TgO} (h : GO X T lk a t) (h2 : GOs X T lk tgs ts) (hs : (assignEach (a :: tgs) X.env).map (·.2) = assign a X.env :: (assignEach tgs X.env).map (·.2) := by rfl) : GOs X T lk (a :: tgs) (t :: ts) := by
  obtain ⟨g, p, h⟩ := h
  obtain ⟨g2, p2, h2⟩ := h2
  refine ⟨_, pgs_cons p p2 hs, fun os env env' ht G σ σ0 H L Lx vs own e0 Lo ar hn hR hS Q hQ => ?_⟩
  cases ar with
  | nil => cases ht
  | @v o v c own os vs Lo ot ar =>
    unfold asgAll at ht
    obtain ⟨env1, e1, ht⟩ := bind_eq ht
    refine ⟨v, vs, rfl, ?_⟩
    have S0 : Sep T G H (c ++ (L ++ (Lo ++ Lx))) := hS.sub (.perm (by
      rw [List.append_assoc]
      exact (List.perm_append_comm_assoc Lo L Lx).append_left c))
    refine h o env env1 e1 G σ H L (Lo ++ Lx) v c ot hR S0 _ fun G1 σ1 H1 L1 m1 k1 R1 S1 => ?_
    refine h2 os env1 env' ht G1 σ1 σ0 H1 L1 Lx vs own e0 Lo (ar.mono m1) (fun x hx => hn x (List.mem_cons_of_mem _ hx)) R1 S1.comm3 _ fun G2 σ2 H2 L2 m2 k2 R2 S2 => ?_
    exact hQ G2 σ2 H2 L2 (m1.trans m2) (fun i hi => (k2 i hi).trans (k1 i hi)) R2 S2
  | s _ _ _ =>
    have := hn _ List.mem_cons_self
    cases this
/-- t1, t2, .. = a1, a2, .. -/
theorem sv_parN {tgs : List Expr} {k1 k2 : Nat} {p1 p2 : Pos} {ts : List TgO} {own : List (Option Nat)} {fas : ExA} {n : Nat} (hc : X.calm = true) (ha : AV X T es own fas) (hg : GOs X T lk tgs ts) (hn : ∀ x ∈ own, x = none := by decide) (hl : own.length = n := by rfl)
    (ht : ∀ (g : TGs), PGs X tgs g → PG X (.Tuple tgs k1 p1) (gTup X.K n g)) (hsz : n ≤ sizeLine := by decide)
    (hs : swapsWithSole [.Tuple tgs k1 p1] (.Tuple es k2 p2) pos.line X.env = pure false := by rfl) (hw : swappedStores [.Tuple tgs k1 p1] (.Tuple es k2 p2) X.env = pure none := by rfl)
    (ha1 : (assignEach [.Tuple tgs k1 p1] X.env).map (·.2) = [assign (.Tuple tgs k1 p1) X.env] := by rfl) : SV X T lk (.Assign [.Tuple tgs k1 p1] (.Tuple es k2 p2) pos) (sParN ts fas) := by
  obtain ⟨ta, pa, h⟩ := ha
  obtain ⟨g, pg, hg⟩ := hg
  refine ⟨_, ps_asg (pe_tup pa) (ht g pg) hs hw ha1, fun env r hf G σ H L Lx hR hS D hD => ?_⟩
  unfold sParN at hf
  obtain ⟨⟨os, env1⟩, e1, hf⟩ := bind_eq hf
  obtain ⟨env2, e2, hf⟩ := bind_eq hf
  cases hf
  refine h env os env1 e1 G σ H L Lx hR hS _ fun G1 vs H1 L1 Lo s1 ar R1 S1 => ?_
  have hlen : vs.length = n := by
    have : ∀ {own : List (Option Nat)} {os : List O} {vs : List V} {Lo : List Cell}, ArgR X.K G1 σ env1 own os vs Lo → vs.length = own.length := fun {own os vs Lo} ar => by
      induction ar with
      | nil => rfl
      | v _ _ ih => simp [ih]
      | s _ _ _ ih => simp [ih]
    rw [this ar, hl]
  refine ⟨by rw [hlen]; exact hsz, fun p hp => ⟨p, vs, rfl, .inl (.inl upd_same), hlen, ?_⟩⟩
  have m1 := same_new (o := .tup vs) (S1.fresh hp).1
  refine hg os env1 env2 e2 _ σ σ _ L1 Lx vs own env1 Lo (ar.mono m1) hn (rel_mono m1 R1) (S1.frozen hp) _ fun G2 σ2 H2 L2 m2 k2 R2 S2 => ?_
  exact hD G2 σ2 H2 L2 ((s1.trans m1).trans m2) k2 R2 S2
/-- three plain local names at once: stored from the right -/
theorem ps_par3 {i j k : Nat} {x y z : Str} {ta : TA} {px py pz pt : Pos} {kt k2 pt2} (hc : X.calm = true) (hN : X.N.Nodup) (hi : X.N[i]? = some x) (hj : X.N[j]? = some y) (hk : X.N[k]? = some z) (hij : i ≠ j) (hik : i ≠ k) (hjk : j ≠ k)
    (hx : X.env.scope.names.lookup x = some .local) (hy : X.env.scope.names.lookup y = some .local) (hz : X.env.scope.names.lookup z = some .local) (ha : PA X [a, b, c] ta)
    (hw : swappedStores [.Tuple [.Name x px, .Name y py, .Name z pz] kt pt] (.Tuple [a, b, c] k2 pt2) X.env = pure (some [x, y, z]))
    (hs : swapsWithSole [.Tuple [.Name x px, .Name y py, .Name z pz] kt pt] (.Tuple [a, b, c] k2 pt2) pos.line X.env = pure false := by rfl) :
    PS X (.Assign [.Tuple [.Name x px, .Name y py, .Name z pz] kt pt] (.Tuple [a, b, c] k2 pt2) pos) (fun D σ H => ta σ H fun vs H1 => ∃ v w u, vs = [v, w, u] ∧ D.nx (((σ.set i (some v)).set j (some w)).set k (some u)) H1) := by
  refine ⟨fun pins s σ H D I h => ?_⟩
  rw [exec_Assign_arm]
  refine wpAny_bind (wpAny_standAt ?_)
  rw [hs]
  refine wpAny_bind (wpAny_pure ?_)
  rw [if_neg (by decide)]
  refine wpAny_bind (Tuple_ (thn (ha.run _ pins s σ H _ I h) fun us s1 ⟨vs, H1, I1, r1, q1⟩ => ?_))
  obtain ⟨v, w, u, e1, q1⟩ := q1
  subst e1
  obtain ⟨u1, u2, u3, rfl, rv, rw', ru⟩ : ∃ u1 u2 u3, us = [u1, u2, u3] ∧ RelV v u1 ∧ RelV w u2 ∧ RelV u u3 := by
    cases r1 with
    | cons p q =>
      cases q with
      | cons p' q' =>
        cases q' with
        | cons p3 q3 =>
          cases q3
          exact ⟨_, _, _, rfl, p, p', p3⟩
  refine wpAny_newObj_type ?_ (by show 3 ≤ sizeLine; decide)
  have I2 : Inv X pins σ H1 { s1 with heap := s1.heap.push { cls := .type "tuple", data := .seq [u1, u2, u3].toArray } } := I1.kept (t' := s1.toks) fun b o e => Heap.get?_push_of_some _ e
  rw [hw]
  refine wpAny_bind (wpAny_pure ?_)
  show wpAny (model X.prog X.w) X.A (do rule "assign.swapped-stores"; let items ← unpackItems (.ref s1.heap.objs.size) 3 none; assignInOrder [fun v => bindName X.env z v, fun v => bindName X.env y v, fun v => bindName X.env x v] items.reverse; pure Flow.next) _ _ _
  refine wpAny_bind (wpAny_rule (wpAny_bind (unpackItems_tuple (items := #[u1, u2, u3]) (I.ok.hd hc) (IsTup.new s1.heap _) fun h' hx' => ?_)))
  have I3 := I2.kept (h' := h') (t' := s1.toks) fun b o e => hx' b o (Nat.ne_of_lt (Heap.lt_size e)) e
  show wpAny _ _ (assignInOrder [fun v => bindName X.env z v, fun v => bindName X.env y v, fun v => bindName X.env x v] [u3, u2, u1] >>= fun _ => pure Flow.next) _ _ _
  refine wpAny_bind (assignInOrder_cons (wpAny_bindName (store_ok I3 hN hk (.inl hz) ru (fun s2 I4 => ?_) (.inr hz))))
  refine assignInOrder_cons (wpAny_bindName (store_ok I4 hN hj (.inl hy) rw' (fun s3 I5 => ?_) (.inr hy)))
  refine assignInOrder_cons (wpAny_bindName (store_ok I5 hN hi (.inl hx) rv (fun s4 I6 => assignInOrder_nil (wpAny_pure ?_)) (.inr hx)))
  have e : ((σ.set k (some u)).set j (some w)).set i (some v) = ((σ.set i (some v)).set j (some w)).set k (some u) := by
    rw [List.set_comm _ _ hjk.symm, List.set_comm _ _ hik.symm, List.set_comm _ _ hij.symm]
  rw [e] at I6
  exact ⟨_, H1, I6, q1⟩
theorem sv_par3 {x y z : Str} {px py pz pt pt2 : Pos} {kt k2 : Nat} {fa fb fc : Ex} (i j k : Nat) (hc : X.calm = true) (hN : X.N.Nodup) (ha : EV X T a fa) (hb : EV X T b fb) (hcc : EV X T c fc) (hi : X.N[i]? = some x := by rfl) (hj : X.N[j]? = some y := by rfl) (hk : X.N[k]? = some z := by rfl) (hij : i ≠ j := by decide) (hik : i ≠ k := by decide) (hjk : j ≠ k := by decide)
    (hx : X.env.scope.names.lookup x = some .local := by rfl) (hy : X.env.scope.names.lookup y = some .local := by rfl) (hz : X.env.scope.names.lookup z = some .local := by rfl) (hli : lk i = false := by rfl) (hlj : lk j = false := by rfl) (hlk : lk k = false := by rfl)
    (hw : swappedStores [.Tuple [.Name x px, .Name y py, .Name z pz] kt pt] (.Tuple [a, b, c] k2 pt2) X.env = pure (some [x, y, z]) := by rfl) (hs : swapsWithSole [.Tuple [.Name x px, .Name y py, .Name z pz] kt pt] (.Tuple [a, b, c] k2 pt2) pos.line X.env = pure false := by rfl)
    (hs1 : starEach [a, b, c] X.env = (false, eval a X.env) :: starEach [b, c] X.env := by rfl) (hs2 : starEach [b, c] X.env = (false, eval b X.env) :: starEach [c] X.env := by rfl) (hs3 : starEach [c] X.env = (false, eval c X.env) :: starEach [] X.env := by rfl) :
    SV X T lk (.Assign [.Tuple [.Name x px, .Name y py, .Name z pz] kt pt] (.Tuple [a, b, c] k2 pt2) pos) (sPar3 i j k fa fb fc) := by
  obtain ⟨ta, pa, h1⟩ := ha
  obtain ⟨tb, pb, h2⟩ := hb
  obtain ⟨tc, pc, h3⟩ := hcc
  refine ⟨_, ps_par3 hc hN hi hj hk hij hik hjk hx hy hz (pa_cons pa (pa_cons pb (pa_cons pc pa_nil hs3) hs2) hs1) hw hs, fun env r hf G σ H L Lx hR hS D hD => ?_⟩
  unfold sPar3 at hf
  obtain ⟨⟨o1, env1⟩, e1, hf⟩ := bind_eq hf
  obtain ⟨⟨o2, env2⟩, e2, hf⟩ := bind_eq hf
  obtain ⟨⟨o3, env3⟩, e3, hf⟩ := bind_eq hf
  cases hf
  refine h1 env o1 env1 e1 G σ H L Lx hR hS _ fun G1 v1 H1 L1 Lo1 s1 ot1 R1 S1 => ?_
  refine h2 env1 o2 env2 e2 G1 σ H1 L1 (Lo1 ++ Lx) R1 S1.comm3 _ fun G2 v2 H2 L2 Lo2 s2 ot2 R2 S2 => ?_
  refine h3 env2 o3 env3 e3 G2 σ H2 L2 (Lo2 ++ (Lo1 ++ Lx)) R2 S2.comm3 _ fun G3 v3 H3 L3 Lo3 s3 ot3 R3 S3 => ?_
  refine ⟨v1, v2, v3, rfl, ?_⟩
  obtain ⟨L4, q1, q2⟩ := rel_put (j := i) R3 (ot_mono (s2.trans s3) ot1)
  obtain ⟨L5, q3, q4⟩ := rel_put (j := j) q1 (ot_mono s3 ot2)
  obtain ⟨L6, q5, q6⟩ := rel_put (j := k) q3 ot3
  refine hD G3 _ H3 L6 ((s1.trans s2).trans s3) (fun n hn => by rw [lk_set hlk n hn, lk_set hlj n hn, lk_set hli n hn]) q5 (S3.sub ?_)
  refine Sub.trans (L' := Lo3 ++ (Lo2 ++ (Lo1 ++ (L3 ++ Lx)))) (.perm (((List.perm_append_comm_assoc L3 Lo2 _).append_left Lo3).trans ((((List.perm_append_comm_assoc L3 Lo1 Lx).append_left Lo2)).append_left Lo3))) ?_
  rw [← List.append_assoc Lo1, ← List.append_assoc Lo2, ← List.append_assoc]
  exact (Sub.trans (Sub.trans q2.left q4).left q6).right
end
end Sh

/-! Shift layer 9: ends. -/
namespace Sh
open PySem PySem.Spec PyProof.Rows L2
section
variable {X : Cx} {T : List Addr} {lk : Nat → Bool} {a b c e : Expr} {pos : Pos}
theorem bv_chain {op op' : CmpOp} {g g' : O → O → Option Bool} {fa fb fc : Ex} (hg : Cmp2 X T op g) (hg' : Cmp2 X T op' g') (ha : EV X T a fa) (hb : EV X T b fb) (hc : EV X T c fc) (hm : lastMarks [op, op'] [b, c] = false := by with_unfolding_all rfl) :
    BV X T (.Compare a [op, op'] [b, c] pos) (bChain g g' fa fb fc) := by
  obtain ⟨ta, pa, ha⟩ := ha
  obtain ⟨tb, pb, hb⟩ := hb
  obtain ⟨tc, pc, hc⟩ := hc
  refine ⟨_, pt_chain can2_ok can2_ok pa pb pc hm, fun env o env' hf G σ H L Lx hR hS Q hQ => ?_⟩
  unfold bChain at hf
  obtain ⟨⟨o1, env1⟩, e1, hf⟩ := bind_eq hf
  obtain ⟨⟨o2, env2⟩, e2, hf⟩ := bind_eq hf
  obtain ⟨k, e3, hf⟩ := bind_eq hf
  refine ha env o1 env1 e1 G σ H L Lx hR hS _ fun G1 v1 H1 L1 Lo1 s1 ot1 R1 S1 => ?_
  refine hb env1 o2 env2 e2 G1 σ H1 L1 (Lo1 ++ Lx) R1 S1.comm3 _ fun G2 v2 H2 L2 Lo2 s2 ot2 R2 S2 => ?_
  refine hg.can (ot_mono s2 ot1) ot2 (fun c hc => List.mem_append_right _ (List.mem_append_right _ (List.mem_append_left _ hc))) (fun c hc => List.mem_append_left _ hc) S2 e3 ?_
  refine ⟨k, rfl, ?_⟩
  cases k with
  | true =>
    simp only [if_true] at hf ⊢
    obtain ⟨⟨o3, env3⟩, e4, hf⟩ := bind_eq hf
    obtain ⟨k', e5, hf⟩ := bind_eq hf
    cases hf
    refine hc env2 o3 env3 e4 G2 σ H2 L2 (Lo2 ++ (Lo1 ++ Lx)) R2 S2.comm3 _ fun G3 v3 H3 L3 Lo3 s3 ot3 R3 S3 => ?_
    refine hg'.can (ot_mono s3 ot2) ot3 (fun c hc => List.mem_append_right _ (List.mem_append_right _ (List.mem_append_left _ hc))) (fun c hc => List.mem_append_left _ hc) S3 e5 ?_
    exact ⟨_, rfl, hQ G3 H3 L3 ((s1.trans s2).trans s3) R3 (S3.sub (show Sub (L3 ++ Lx) _ from Sub.trans (L' := L3 ++ (Lo2 ++ (Lo1 ++ Lx))) .drop (Sub.left (Sub.trans (L' := Lo1 ++ Lx) .drop .drop))))⟩
  | false =>
    simp only [Bool.false_eq_true, if_false] at hf ⊢
    cases hf
    exact ⟨false, rfl, hQ G2 H2 L2 (s1.trans s2) R2 (S2.sub (sub_tail2 (E := [])))⟩
end
theorem spD_none {K : PySem.W.Frag} {T : List Addr} {vs : List V} {H : Hp} {Q : VK} {E : XK} (h : spD K T (fun _ => none) vs H Q E) : False := by
  obtain ⟨_, _, _, _, _, _, _, _, z, _⟩ := h
  cases z
theorem fnok_none {P : Program} {w : World} {K : PySem.W.Frag} {mg : Str → Option Value} {base : Heap} {T : List Addr} {k : Nat} {f : Addr} {fd : FuncData} {ps : List Str} : FnOk P w K mg base CX0 k f fd ps (spD K T fun _ => none) :=
  ⟨fun vs H Q E h => (spD_none h).elim, fun A outer s H args us vs Q E hr e0 hb r h => (spD_none h).elim⟩
theorem lk_out {l : List Bool} {n i : Nat} (h : n ≤ i) (hl : l.length = n) : l.getD i false = false := by
  rw [List.getD_eq_getElem?_getD, List.getElem?_eq_none (by omega)]
  rfl
theorem law_sp {K : PySem.W.Frag} {F : Fn} {H : Hp} {a : Addr} {ns : List Int} (h : ∃ fs, F [.d (.list (ns.map .int))] = some (.d (.bool true), fs)) (hS : SqL K H a (ns.map V.int)) {E : XK} : spD K [] F [.ref a] H (fun v _ => v = .bl true) E := by
  obtain ⟨fs, h⟩ := h
  have hd : DpAll K H (ns.map V.int) (ns.map PyData.int) := by
    clear h hS
    induction ns with
    | nil => exact .nil
    | cons n r ih => exact .cons (.int n) ih
  refine ⟨H, [_], [], [], _, fs, .some (.d (.lst hS hd)) .nil, ⟨by simp, by simp, .refl _, by simp⟩, h, fun G' v H' cr cf s ot _ _ => ?_⟩
  cases ot with
  | d ot =>
    cases ot
    rfl
end Sh

/-! What every law's own helpers do: plain Lean. -/
namespace Sh
open PySem

/-! ### helpers -/
theorem compLoop_pure {own : List Nat} {tg : Tg} {cond : ExB} {elt : Ex} {e : Ev} (b : D → Bool) (f : D → D) : ∀ ds : List D,
    (∀ x ∈ ds, ∃ e1 e2, tg x e = some e1 ∧ cond e1 = some (b x, e2) ∧ (b x = false → wipeE e2 own = e) ∧ (b x = true → ∃ o e3, elt e2 = some (o, e3) ∧ frz o = some (f x) ∧ wipeE e3 own = e)) →
    compLoop own tg cond elt ds e = some ((ds.filter b).map f, e)
  | [], _ => rfl
  | x :: xs, h => by
    obtain ⟨e1, e2, h1, h2, h3, h4⟩ := h x List.mem_cons_self
    have ih := compLoop_pure b f xs fun y hy => h y (List.mem_cons_of_mem _ hy)
    unfold compLoop
    rw [h1, Option.bind_some, h2, Option.bind_some]
    cases hb : b x with
    | false =>
      simp only [Bool.false_eq_true, if_false]
      rw [h3 hb, ih, List.filter_cons_of_neg (by simp [hb])]
    | true =>
      obtain ⟨o, e3, h5, h6, h7⟩ := h4 hb
      simp only [if_true]
      rw [h5, Option.bind_some, h6, Option.bind_some, h7, ih, Option.bind_some, List.filter_cons_of_pos hb]
      rfl
theorem rangeD_zero (n : Nat) : rangeD 0 (n : Int) = (List.range n).map fun k => PyData.int (k : Nat) := by
  unfold rangeD
  simp

/-! ### row: the script, how much of it is taken, the state, the rest of a large number -/
def Rw (ns : List Int) (o : O) : Prop := ∃ p s r : Int, 0 ≤ p ∧ o = .l [.list (ns.map .int), .int p, .int s, .int r]
def B_taken : Sx :=
  (sSeq (sIf (bOp2 gGt (pV (eOp2 gItem (pS 0) (pV (eC (.int 3))))) (pV (eC (.int 0)))) (sSeq (sSet 2 (eOp2 gMod (pV (eOp1 gInt (pV (eOp2 gItem (pS 0) (pV (eC (.int 3))))))) (pV (eVar 1))))
  (sSeq (sSub 0 (eC (.int 3)) (eOp2 gDiv (pV (eOp2 gItem (pS 0) (pV (eC (.int 3))))) (pV (eVar 1))))
  (sRet (eVar 2)))) sNil)
  (sSeq (sSub 0 (eC (.int 1)) (eOp2 gAdd (pV (eOp2 gItem (pS 0) (pV (eC (.int 1))))) (pV (eC (.int 1)))))
  (sSeq (sIf (bOp2 gGt (pV (eOp2 gItem (pS 0) (pV (eC (.int 1))))) (pV (eOp1 gLen (pV (eOp2 gItem (pS 0) (pV (eC (.int 0)))))))) (sSeq (sSub 0 (eC (.int 2)) (eOp2 gMod (pV (eOp1 gInt (pV (eOp2 gAdd (pV (eOp2 gMul (pV (eOp2 gItem (pS 0) (pV (eC (.int 2))))) (pV (eC (.int 48271))))) (pV (eC (.int 11))))))) (pV (eC (.int 2147483647)))))
  (sRet (eOp2 gMod (pV (eOp1 gInt (pV (eOp2 gDiv (pV (eOp2 gItem (pS 0) (pV (eC (.int 2))))) (pV (eC (.int 7))))))) (pV (eVar 1))))) sNil)
  (sSeq (sSet 3 (eOp2 gItem (pV (eOp2 gItem (pS 0) (pV (eC (.int 0))))) (pV (eOp2 gSub (pV (eOp2 gItem (pS 0) (pV (eC (.int 1))))) (pV (eC (.int 1)))))))
  (sSeq (sSub 0 (eC (.int 2)) (eOp2 gMod (pV (eOp1 gInt (pV (eOp2 gAdd (pV (eOp2 gAdd (pV (eOp2 gMul (pV (eOp2 gItem (pS 0) (pV (eC (.int 2))))) (pV (eC (.int 48271))))) (pV (eVar 3)))) (pV (eC (.int 11))))))) (pV (eC (.int 2147483647)))))
  (sSeq (sIf (bOp2 gGe (pV (eVar 3)) (pV (eOp2 gPow (pV (eC (.int 10))) (pV (eC (.int 18)))))) (sSub 0 (eC (.int 3)) (eOp2 gDiv (pV (eVar 3)) (pV (eVar 1)))) sNil)
  (sRet (eOp2 gMod (pV (eOp1 gInt (pV (eVar 3)))) (pV (eVar 1))))))))))
def F_taken : Fn := runDef 4 2 (fun i => [true, true].getD i false) B_taken
theorem taken_ok {ns : List Int} {o : O} {m : Int} (h : Rw ns o) (hm : 0 < m) (hm2 : m < 1073741824) :
    ∃ v o', F_taken [o, .d (.int m)] = some (.d (.int v), [some o', some (.d (.int m))]) ∧ 0 ≤ v ∧ v < m ∧ Rw ns o' := by
  obtain ⟨p, s, r, hp, rfl⟩ := h
  by_cases hr : 0 < r
  · refine ⟨r % m, .l [.list (ns.map .int), .int p, .int s, .int (r / m)], ?_, Int.emod_nonneg _ (by omega), Int.emod_lt_of_pos _ hm, p, s, r / m, hp, rfl⟩
    unfold F_taken runDef B_taken
    simp [sSeq, sIf, bOp2, eOp2, eOp1, pV, pS, eC, eVar, slot, res, gItem, oSeq, oInt, dItem, L2.atI, L2.ixN, gGt, hr, sSet, gMod, gInt, hm, sSub, oOwn, frz, gDiv, hm2, sRet, fins]
  · by_cases hl : p + 1 > ns.length
    · refine ⟨(s * 48271 + 11) % 2147483647 / 7 % m, .l [.list (ns.map .int), .int (p + 1), .int ((s * 48271 + 11) % 2147483647), .int r], ?_, Int.emod_nonneg _ (by omega), Int.emod_lt_of_pos _ hm, p + 1, _, r, by omega, rfl⟩
      have hl' : (ns.length : Int) < p + 1 := hl
      unfold F_taken runDef B_taken
      simp [sSeq, sIf, bOp2, eOp2, eOp1, pV, pS, eC, eVar, slot, res, gItem, oSeq, oInt, dItem, L2.atI, L2.ixN, gGt, hr, sSet, gMod, gInt, hm, sSub, oOwn, frz, gDiv, hm2, sRet, fins, sNil, gAdd, gLen, hl', gMul]
    · have hl' : ¬ (ns.length : Int) < p + 1 := by omega
      have hi : p.toNat < ns.length := by omega
      have hx : ns[p.toNat]? = some ns[p.toNat] := List.getElem?_eq_getElem hi
      have e1 : p + 1 - 1 = p := by omega
      have e2 : p < (ns.length : Int) := by omega
      generalize hc : ns[p.toNat] = c at hx
      by_cases hb : c ≥ 10 ^ 18
      · refine ⟨c % m, .l [.list (ns.map .int), .int (p + 1), .int ((s * 48271 + c + 11) % 2147483647), .int (c / m)], ?_, Int.emod_nonneg _ (by omega), Int.emod_lt_of_pos _ hm, p + 1, _, _, by omega, rfl⟩
        have hb' : (1000000000000000000 : Int) ≤ c := hb
        unfold F_taken runDef B_taken
        simp [sSeq, sIf, bOp2, eOp2, eOp1, pV, pS, eC, eVar, slot, res, gItem, oSeq, oInt, dItem, L2.atI, L2.ixN, gGt, hr, sSet, sSetF, gMod, gInt, hm, sSub, oOwn, frz, gDiv, hm2, sRet, fins, sNil, gAdd, gLen, hl', gMul, gSub, hp, e1, e2, hx, gGe, gPow, hb', hc]
      · refine ⟨c % m, .l [.list (ns.map .int), .int (p + 1), .int ((s * 48271 + c + 11) % 2147483647), .int r], ?_, Int.emod_nonneg _ (by omega), Int.emod_lt_of_pos _ hm, p + 1, _, _, by omega, rfl⟩
        have hb' : ¬ (1000000000000000000 : Int) ≤ c := fun z => hb z
        unfold F_taken runDef B_taken
        simp [sSeq, sIf, bOp2, eOp2, eOp1, pV, pS, eC, eVar, slot, res, gItem, oSeq, oInt, dItem, L2.atI, L2.ixN, gGt, hr, sSet, sSetF, gMod, gInt, hm, sSub, oOwn, frz, gDiv, hm2, sRet, fins, sNil, gAdd, gLen, hl', gMul, gSub, hp, e1, e2, hx, gGe, gPow, hb', hc]

/-! ### found and due are the same data -/
def F_alike : Nat → Fn
  | 0 => fun _ => none
  | n + 1 => runDef 3 2 (fun i => [true, true].getD i false)
    (sSeq (sIf (bTru (pV (eOp1 (gIsa ["tuple", "list"]) (pV (eVar 1))))) (sSeq (sIf (bOr (bNot (bTru (pV (eOp1 (gIsa ["tuple", "list"]) (pV (eVar 0)))))) (bOp2 gNe (pV (eOp1 (gIsa ["list"]) (pV (eVar 0)))) (pV (eOp1 (gIsa ["list"]) (pV (eVar 1)))))) (sRet (eC (.bool false))) sNil)
  (sSeq (sIf (bOp2 gNe (pV (eOp1 gLen (pV (eVar 0)))) (pV (eOp1 gLen (pV (eVar 1))))) (sRet (eC (.bool false))) sNil)
  (sRet (eOp2 (gB gEq) (pV (eComp [2] (iRange (eOp1 gLen (pV (eVar 1)))) (tName 2) (bNot (bTru (pV (eCall (F_alike n) [none, none] (aCons (eOp2 gItem (pV (eVar 0)) (pV (eVar 2))) (aCons (eOp2 gItem (pV (eVar 1)) (pV (eVar 2))) aNil)))))) (eVar 2))) (pV (eLst aNil)))))) sNil)
  (sSeq (sIf (bOr (bOp2 gIs (pV (eVar 1)) (pV (eC .none))) (bTru (pV (eOp1 (gIsa ["str"]) (pV (eVar 1)))))) (sRet (eAnd (eOp2 (gB gEq) (pV (eVar 0)) (pV (eVar 1))) (eOp2 (gB gEq) (pV (eOp1 (gIsa ["str"]) (pV (eVar 0)))) (pV (eOp1 (gIsa ["str"]) (pV (eVar 1))))))) sNil)
  (sRet (eAnd (eOp1 (gIsa ["int"]) (pV (eVar 0))) (eAnd (eOp2 (gB gEq) (pV (eOp1 (gIsa ["bool"]) (pV (eVar 0)))) (pV (eOp1 (gIsa ["bool"]) (pV (eVar 1))))) (eOp2 (gB gEq) (pV (eVar 0)) (pV (eVar 1))))))))
mutual
/-- data that alike takes within n turns -/
def fitD : Nat → D → Bool
  | 0, _ => false
  | _ + 1, .none => true
  | _ + 1, .bool _ => true
  | _ + 1, .int _ => true
  | _ + 1, .str s => SeqAt.shaped (.str s)
  | n + 1, .list xs => decide (xs.length ≤ 1000000) && fitAll n xs
  | n + 1, .tuple xs => decide (xs.length ≤ 1000000) && fitAll n xs
  | _ + 1, .dict _ => false
def fitAll : Nat → List D → Bool
  | _, [] => true
  | n, x :: xs => fitD n x && fitAll n xs
end
theorem fitAll_mem {n : Nat} : ∀ {xs : List D} {i : Nat} {x : D}, fitAll n xs = true → xs[i]? = some x → fitD n x = true
  | x :: xs, 0, y, h, e => by
    unfold fitAll at h
    simp only [Bool.and_eq_true] at h
    cases e
    exact h.1
  | x :: xs, i + 1, y, h, e => by
    unfold fitAll at h
    simp only [Bool.and_eq_true] at h
    exact fitAll_mem (i := i) h.2 (by simpa using e)
theorem shaped_bool (b : Bool) : SeqAt.shaped (.bool b) = true := by cases b <;> rfl
theorem shaped_int (b : Int) : SeqAt.shaped (.int b) = true := by rfl
theorem shaped_none : SeqAt.shaped .none = true := by rfl
theorem shaped_nil : SeqAt.shaped (.list []) = true := by rfl
theorem eqv_bool (b c : Bool) : PyData.eqv (.bool b) (.bool c) = (b == c) := by simp [PyData.eqv]
theorem eqv_int (b c : Int) : PyData.eqv (.int b) (.int c) = (b == c) := by simp [PyData.eqv]
theorem eqv_str (b c : Str) : PyData.eqv (.str b) (.str c) = (b == c) := by simp [PyData.eqv]
theorem eqv_none : PyData.eqv .none .none = true := by simp [PyData.eqv]
theorem eqv_nil : PyData.eqv (.list []) (.list []) = true := by simp [PyData.eqv, PyData.eqvAll]
theorem alike_refl : ∀ (n : Nat) (x : D), fitD n x = true → F_alike n [.d x, .d x] = some (.d (.bool true), [some (.d x), some (.d x)])
  | 0, x, h => by simp [fitD] at h
  | n + 1, x, h => by
    have seq : ∀ (xs : List D), (x = .list xs ∨ x = .tuple xs) → xs.length ≤ 1000000 → fitAll n xs = true →
        compLoop [2] (tName 2) (bNot (bTru (pV (eCall (F_alike n) [none, none] (aCons (eOp2 gItem (pV (eVar 0)) (pV (eVar 2))) (aCons (eOp2 gItem (pV (eVar 1)) (pV (eVar 2))) aNil)))))) (eVar 2) (rangeD 0 (xs.length : Int)) [some (.d x), some (.d x), none] = some ([], [some (.d x), some (.d x), none]) := by
      intro xs hx hl hf
      have hq : oSeq (.d x) = some xs := by rcases hx with rfl | rfl <;> rfl
      rw [rangeD_zero, compLoop_pure (fun _ => false) id]
      · simp
      · intro y hy
        obtain ⟨k, hk, rfl⟩ := List.mem_map.mp hy
        have hk' := List.mem_range.mp hk
        have hxk : xs[k]? = some xs[k] := List.getElem?_eq_getElem hk'
        have ih := alike_refl n xs[k] (fitAll_mem hf hxk)
        have hk2 : (k : Int) < (xs.length : Int) := by omega
        refine ⟨[some (.d x), some (.d x), some (.d (.int k))], [some (.d x), some (.d x), some (.d (.int k))], by simp [tName], ?_, fun _ => by simp [wipeE], fun z => by cases z⟩
        simp [-oSeq, bNot, bTru, pV, eCall, aCons, eOp2, eVar, slot, res, gItem, hq, oInt, dItem, L2.atI, L2.ixN, hk2, hxk, ih, aNil, oTru, putBack, clearE]
    cases x with
    | none =>
      unfold F_alike runDef
      simp [sSeq, sIf, bTru, eOp1, pV, eVar, slot, res, gIsa, tyName, isaTy, oTru, sNil, bOr, bOp2, eOp2, eC, gIs, gIsN, sRet, eAnd, gB, gEq, oDat, shaped_none, eqv_none, shaped_bool, eqv_bool, oBool, fins]
    | bool b =>
      unfold F_alike runDef
      simp [sSeq, sIf, bTru, eOp1, pV, eVar, slot, res, gIsa, tyName, isaTy, oTru, sNil, bOr, bOp2, eOp2, eC, gIs, gIsN, sRet, eAnd, gB, gEq, oDat, shaped_none, eqv_none, shaped_bool, eqv_bool, oBool, fins]
    | int i =>
      unfold F_alike runDef
      simp [sSeq, sIf, bTru, eOp1, pV, eVar, slot, res, gIsa, tyName, isaTy, oTru, sNil, bOr, bOp2, eOp2, eC, gIs, gIsN, sRet, eAnd, gB, gEq, oDat, shaped_none, eqv_none, shaped_bool, eqv_bool, oBool, fins, shaped_int, eqv_int]
    | str i =>
      have shaped_str : SeqAt.shaped (.str i) = true := by simpa [fitD] using h
      unfold F_alike runDef
      simp [sSeq, sIf, bTru, eOp1, pV, eVar, slot, res, gIsa, tyName, isaTy, oTru, sNil, bOr, bOp2, eOp2, eC, gIs, gIsN, sRet, eAnd, gB, gEq, oDat, shaped_none, eqv_none, shaped_bool, eqv_bool, oBool, fins, shaped_str, eqv_str]
    | list xs =>
      unfold fitD at h
      simp only [Bool.and_eq_true, decide_eq_true_eq] at h
      have hs := seq xs (.inl rfl) h.1 h.2
      have hl : (xs.length : Int) ≤ 1000000 := by omega
      have hl2 : (-1000000 : Int) ≤ (xs.length : Int) := by omega
      have hl3 : (rangeD 0 (xs.length : Int)).length ≤ 1000000 := by rw [rangeD_zero]; simpa using h.1
      unfold F_alike runDef
      simp [sSeq, sIf, bTru, bNot, eOp1, pV, eVar, slot, res, gIsa, tyName, isaTy, oTru, sNil, bOr, bOp2, eOp2, eC, gIs, gIsN, sRet, eAnd, gB, gEq, gNe, oDat, shaped_none, eqv_none, shaped_bool, eqv_bool, oBool, fins, shaped_int, eqv_int, gLen, oSeq, eComp, iRange, oInt, hl, hl2, hl3, plainE, wipeE, hs, backE, eLst, aNil, frzAll, shaped_nil, eqv_nil]
    | tuple xs =>
      unfold fitD at h
      simp only [Bool.and_eq_true, decide_eq_true_eq] at h
      have hs := seq xs (.inr rfl) h.1 h.2
      have hl : (xs.length : Int) ≤ 1000000 := by omega
      have hl2 : (-1000000 : Int) ≤ (xs.length : Int) := by omega
      have hl3 : (rangeD 0 (xs.length : Int)).length ≤ 1000000 := by rw [rangeD_zero]; simpa using h.1
      unfold F_alike runDef
      simp [sSeq, sIf, bTru, bNot, eOp1, pV, eVar, slot, res, gIsa, tyName, isaTy, oTru, sNil, bOr, bOp2, eOp2, eC, gIs, gIsN, sRet, eAnd, gB, gEq, gNe, oDat, shaped_none, eqv_none, shaped_bool, eqv_bool, oBool, fins, shaped_int, eqv_int, gLen, oSeq, eComp, iRange, oInt, hl, hl2, hl3, plainE, wipeE, hs, backE, eLst, aNil, frzAll, shaped_nil, eqv_nil]
    | dict kvs => simp [fitD] at h
end Sh

/-! the meaning of the defs of shiftcore_k56_whole_order_of_periods, printed by gen.py -/
namespace Sh.K56
open PySem Sh
def F_law_alike : Nat → Fn
  | 0 => fun _ => none
  | n + 1 => runDef 3 2 (fun i => [true, true].getD i false)
    (sSeq (sIf (bTru (pV (eOp1 (gIsa ["tuple", "list"]) (pV (eVar 1))))) (sSeq (sIf (bOr (bNot (bTru (pV (eOp1 (gIsa ["tuple", "list"]) (pV (eVar 0)))))) (bOp2 gNe (pV (eOp1 (gIsa ["list"]) (pV (eVar 0)))) (pV (eOp1 (gIsa ["list"]) (pV (eVar 1)))))) (sRet (eC (.bool false))) sNil)
  (sSeq (sIf (bOp2 gNe (pV (eOp1 gLen (pV (eVar 0)))) (pV (eOp1 gLen (pV (eVar 1))))) (sRet (eC (.bool false))) sNil)
  (sRet (eOp2 (gB gEq) (pV (eComp [2] (iRange (eOp1 gLen (pV (eVar 1)))) (tName 2) (bNot (bTru (pV (eCall (F_law_alike n) [none, none] (aCons (eOp2 gItem (pV (eVar 0)) (pV (eVar 2))) (aCons (eOp2 gItem (pV (eVar 1)) (pV (eVar 2))) aNil)))))) (eVar 2))) (pV (eLst aNil)))))) sNil)
  (sSeq (sIf (bOr (bOp2 gIs (pV (eVar 1)) (pV (eC .none))) (bTru (pV (eOp1 (gIsa ["str"]) (pV (eVar 1)))))) (sRet (eAnd (eOp2 (gB gEq) (pV (eVar 0)) (pV (eVar 1))) (eOp2 (gB gEq) (pV (eOp1 (gIsa ["str"]) (pV (eVar 0)))) (pV (eOp1 (gIsa ["str"]) (pV (eVar 1))))))) sNil)
  (sRet (eAnd (eOp1 (gIsa ["int"]) (pV (eVar 0))) (eAnd (eOp2 (gB gEq) (pV (eOp1 (gIsa ["bool"]) (pV (eVar 0)))) (pV (eOp1 (gIsa ["bool"]) (pV (eVar 1))))) (eOp2 (gB gEq) (pV (eVar 0)) (pV (eVar 1))))))))
def B_law_taken : Sx :=
  (sSeq (sIf (bOp2 gGt (pV (eOp2 gItem (pS 0) (pV (eC (.int 3))))) (pV (eC (.int 0)))) (sSeq (sSet 2 (eOp2 gMod (pV (eOp1 gInt (pV (eOp2 gItem (pS 0) (pV (eC (.int 3))))))) (pV (eVar 1))))
  (sSeq (sSub 0 (eC (.int 3)) (eOp2 gDiv (pV (eOp2 gItem (pS 0) (pV (eC (.int 3))))) (pV (eVar 1))))
  (sRet (eVar 2)))) sNil)
  (sSeq (sSub 0 (eC (.int 1)) (eOp2 gAdd (pV (eOp2 gItem (pS 0) (pV (eC (.int 1))))) (pV (eC (.int 1)))))
  (sSeq (sIf (bOp2 gGt (pV (eOp2 gItem (pS 0) (pV (eC (.int 1))))) (pV (eOp1 gLen (pV (eOp2 gItem (pS 0) (pV (eC (.int 0)))))))) (sSeq (sSub 0 (eC (.int 2)) (eOp2 gMod (pV (eOp1 gInt (pV (eOp2 gAdd (pV (eOp2 gMul (pV (eOp2 gItem (pS 0) (pV (eC (.int 2))))) (pV (eC (.int 48271))))) (pV (eC (.int 11))))))) (pV (eC (.int 2147483647)))))
  (sRet (eOp2 gMod (pV (eOp1 gInt (pV (eOp2 gDiv (pV (eOp2 gItem (pS 0) (pV (eC (.int 2))))) (pV (eC (.int 7))))))) (pV (eVar 1))))) sNil)
  (sSeq (sSet 3 (eOp2 gItem (pV (eOp2 gItem (pS 0) (pV (eC (.int 0))))) (pV (eOp2 gSub (pV (eOp2 gItem (pS 0) (pV (eC (.int 1))))) (pV (eC (.int 1)))))))
  (sSeq (sSub 0 (eC (.int 2)) (eOp2 gMod (pV (eOp1 gInt (pV (eOp2 gAdd (pV (eOp2 gAdd (pV (eOp2 gMul (pV (eOp2 gItem (pS 0) (pV (eC (.int 2))))) (pV (eC (.int 48271))))) (pV (eVar 3)))) (pV (eC (.int 11))))))) (pV (eC (.int 2147483647)))))
  (sSeq (sIf (bOp2 gGe (pV (eVar 3)) (pV (eOp2 gPow (pV (eC (.int 10))) (pV (eC (.int 18)))))) (sSub 0 (eC (.int 3)) (eOp2 gDiv (pV (eVar 3)) (pV (eVar 1)))) sNil)
  (sRet (eOp2 gMod (pV (eOp1 gInt (pV (eVar 3)))) (pV (eVar 1))))))))))
def F_law_taken : Fn := runDef 4 2 (fun i => [true, true].getD i false) B_law_taken
def B_law_pick : Sx :=
  (sRet (eOp2 gItem (pV (eVar 1)) (pV (eCall F_law_taken [some 0, none] (aOwn 0 (aCons (eFr (eOp1 gLen (pV (eVar 1)))) aNil))))))
def F_law_pick : Fn := runDef 2 2 (fun i => [true, true].getD i false) B_law_pick
def B_law_number : Sx :=
  (sSeq (sSetF 1 (eCall F_law_pick [some 0, none] (aOwn 0 (aCons (eFr (eLst (aCons (eC (.int 1)) (aCons (eC (.int 1)) (aCons (eC (.int 3)) (aCons (eC (.int 5)) (aCons (eC (.int 7)) (aCons (eC (.int 9)) (aCons (eOp2 gAdd (pV (eOp2 gMul (pV (eC (.int 2))) (pV (eCall F_law_taken [some 0, none] (aOwn 0 (aCons (eC (.int 500000)) aNil)))))) (pV (eC (.int 1)))) aNil))))))))) aNil))))
  (sSeq (sFor (iRange (eCall F_law_taken [some 0, none] (aOwn 0 (aCons (eC (.int 20)) aNil)))) (tName 2) (sSetF 1 (eIf (bOp2 gLe (pV (eOp2 gMul (pV (eC (.int 2))) (pV (eVar 1)))) (pV (eC (.int 1000000)))) (eOp2 gMul (pV (eC (.int 2))) (pV (eVar 1))) (eVar 1))))
  (sRet (eVar 1))))
def F_law_number : Fn := runDef 3 1 (fun i => [true].getD i false) B_law_number
def B_law_rank : Sx :=
  (sSeq (sSet 1 (eC (.int 0)))
  (sSeq (sFor (iRange (eC (.int 30))) (tName 2) (sSeq (sIf (bOp2 gEq (pV (eOp2 gMod (pV (eOp1 gInt (pV (eVar 0)))) (pV (eC (.int 2))))) (pV (eC (.int 1)))) sBrk sNil)
  (sPar2 0 1 (eOp2 gDiv (pV (eVar 0)) (pV (eC (.int 2)))) (eFr (eOp2 gAdd (pV (eVar 1)) (pV (eC (.int 1))))))))
  (sRet (eIf (bOp2 gEq (pV (eVar 0)) (pV (eC (.int 1)))) (eTup (aCons (eC (.int 1)) (aCons (eOp2 gSub (pV (eC (.int 0))) (pV (eVar 1))) (aCons (eC (.int 0)) aNil)))) (eTup (aCons (eC (.int 0)) (aCons (eVar 1) (aCons (eVar 0) aNil))))))))
def F_law_rank : Fn := runDef 3 1 (fun i => [false].getD i false) B_law_rank
def B_is_in : Sx :=
  (sRet (eAnd (eOp1 (gIsa ["int"]) (pV (eVar 0))) (eAnd (eNot (eOp1 (gIsa ["bool"]) (pV (eVar 0)))) (eChain gLe gLe (eVar 1) (eVar 0) (eVar 2)))))
def F_is_in : Fn := runDef 3 3 (fun i => [true, true, true].getD i false) B_is_in
def B_need_number : Sx :=
  (sIf (bNot (bTru (pV (eCall F_is_in [none, none, none] (aCons (eVar 0) (aCons (eVar 1) (aCons (eVar 2) aNil))))))) sNev sNil)
def F_need_number : Fn := runDef 3 3 (fun i => [true, true, true].getD i false) B_need_number
def B_place_of : Sx :=
  (sSeq (sPar2 1 2 (eC (.int 0)) (eVar 0))
  (sSeq (sWhile FU (bOp2 gEq (pV (eOp2 gMod (pV (eVar 2)) (pV (eC (.int 2))))) (pV (eC (.int 0)))) (sPar2 1 2 (eFr (eOp2 gAdd (pV (eVar 1)) (pV (eC (.int 1))))) (eOp2 gDiv (pV (eVar 2)) (pV (eC (.int 2))))))
  (sRet (eIf (bOp2 gEq (pV (eVar 2)) (pV (eC (.int 1)))) (eTup (aCons (eC (.int 1)) (aCons (eOp2 gSub (pV (eC (.int 0))) (pV (eVar 1))) (aCons (eC (.int 0)) aNil)))) (eTup (aCons (eC (.int 0)) (aCons (eVar 1) (aCons (eVar 2) aNil))))))))
def F_place_of : Fn := runDef 3 1 (fun i => [true].getD i false) B_place_of
def B_comes_before : Sx :=
  (sSeq (sExpr (eCall F_need_number [none, none, none] (aCons (eVar 0) (aCons (eC (.int 1)) (aCons (eC (.int 1000000)) aNil)))))
  (sSeq (sExpr (eCall F_need_number [none, none, none] (aCons (eVar 1) (aCons (eC (.int 1)) (aCons (eC (.int 1000000)) aNil)))))
  (sRet (eOp2 (gB gLt) (pV (eCall F_place_of [none] (aCons (eVar 0) aNil))) (pV (eCall F_place_of [none] (aCons (eVar 1) aNil)))))))
def F_comes_before : Fn := runDef 2 2 (fun i => [true, true].getD i false) B_comes_before
def B_law : Sx :=
  (sSeq (sSet 1 (eLst (aCons (eVar 0) (aCons (eC (.int 0)) (aCons (eC (.int 3356)) (aCons (eC (.int 0)) aNil))))))
  (sSeq (sFor (iRange (eC (.int 6))) (tName 2) (sSeq (sPar3 3 4 5 (eFr (eCall F_law_number [some 1] (aOwn 1 aNil))) (eFr (eCall F_law_number [some 1] (aOwn 1 aNil))) (eFr (eCall F_law_number [some 1] (aOwn 1 aNil))))
  (sSeq (sIf (bNot (bTru (pV (eCall (F_law_alike 12) [none, none] (aCons (eFr (eCall F_comes_before [none, none] (aCons (eVar 3) (aCons (eVar 4) aNil)))) (aCons (eOp2 (gB gLt) (pV (eCall F_law_rank [none] (aCons (eVar 3) aNil))) (pV (eCall F_law_rank [none] (aCons (eVar 4) aNil)))) aNil)))))) (sRet (eC (.bool false))) sNil)
  (sSeq (sIf (bOr (bTru (pV (eCall F_comes_before [none, none] (aCons (eVar 3) (aCons (eVar 3) aNil))))) (bAnd (bOp2 gNe (pV (eVar 3)) (pV (eVar 4))) (bOp2 gEq (pV (eCall F_comes_before [none, none] (aCons (eVar 3) (aCons (eVar 4) aNil)))) (pV (eCall F_comes_before [none, none] (aCons (eVar 4) (aCons (eVar 3) aNil))))))) (sRet (eC (.bool false))) sNil)
  (sIf (bAnd (bTru (pV (eCall F_comes_before [none, none] (aCons (eVar 3) (aCons (eVar 4) aNil))))) (bAnd (bTru (pV (eCall F_comes_before [none, none] (aCons (eVar 4) (aCons (eVar 5) aNil))))) (bNot (bTru (pV (eCall F_comes_before [none, none] (aCons (eVar 3) (aCons (eVar 5) aNil)))))))) (sRet (eC (.bool false))) sNil)))))
  (sRet (eC (.bool true)))))
def F_law : Fn := runDef 6 1 (fun i => [true].getD i false) B_law
end Sh.K56

/-! the machine keeps that meaning: printed by gen.py -/
namespace Sh.K56
open PySem PySem.Spec PyProof.Rows L2 Sh
def topS (i : Nat) : Stmt := PySem.Challenge.pw_shiftcore_k56_whole_order_of_periods.main.body.getD i (.Pass ⟨0, 0, 0, 0⟩)
abbrev s_law_alike : Stmt := topS 13
abbrev N_law_alike : List Str := ["found", "due", "k"]
theorem sc_law_alike : FnScope N_law_alike ["found", "due"] (defScope s_law_alike) := ⟨rfl, rfl, rfl, by decide +kernel, rfl, by decide +kernel, by decide +kernel⟩
abbrev s_law_taken : Stmt := topS 11
abbrev N_law_taken : List Str := ["row", "many", "found", "cell"]
theorem sc_law_taken : FnScope N_law_taken ["row", "many"] (defScope s_law_taken) := ⟨rfl, rfl, rfl, by decide +kernel, rfl, by decide +kernel, by decide +kernel⟩
abbrev s_law_pick : Stmt := topS 12
abbrev N_law_pick : List Str := ["row", "things"]
theorem sc_law_pick : FnScope N_law_pick ["row", "things"] (defScope s_law_pick) := ⟨rfl, rfl, rfl, by decide +kernel, rfl, by decide +kernel, by decide +kernel⟩
abbrev s_law_number : Stmt := topS 16
abbrev N_law_number : List Str := ["row", "odd", "turn"]
theorem sc_law_number : FnScope N_law_number ["row"] (defScope s_law_number) := ⟨rfl, rfl, rfl, by decide +kernel, rfl, by decide +kernel, by decide +kernel⟩
abbrev s_law_rank : Stmt := topS 15
abbrev N_law_rank : List Str := ["number", "twos", "turn"]
theorem sc_law_rank : FnScope N_law_rank ["number"] (defScope s_law_rank) := ⟨rfl, rfl, rfl, by decide +kernel, rfl, by decide +kernel, by decide +kernel⟩
abbrev s_is_in : Stmt := topS 4
abbrev N_is_in : List Str := ["value", "least", "most"]
theorem sc_is_in : FnScope N_is_in ["value", "least", "most"] (defScope s_is_in) := ⟨rfl, rfl, rfl, by decide +kernel, rfl, by decide +kernel, by decide +kernel⟩
abbrev s_need_number : Stmt := topS 8
abbrev N_need_number : List Str := ["number", "least", "most"]
theorem sc_need_number : FnScope N_need_number ["number", "least", "most"] (defScope s_need_number) := ⟨rfl, rfl, rfl, by decide +kernel, rfl, by decide +kernel, by decide +kernel⟩
abbrev s_place_of : Stmt := topS 7
abbrev N_place_of : List Str := ["number", "twos", "odd"]
theorem sc_place_of : FnScope N_place_of ["number"] (defScope s_place_of) := ⟨rfl, rfl, rfl, by decide +kernel, rfl, by decide +kernel, by decide +kernel⟩
abbrev s_comes_before : Stmt := topS 9
abbrev N_comes_before : List Str := ["one", "other"]
theorem sc_comes_before : FnScope N_comes_before ["one", "other"] (defScope s_comes_before) := ⟨rfl, rfl, rfl, by decide +kernel, rfl, by decide +kernel, by decide +kernel⟩
abbrev s_law : Stmt := topS 17
abbrev N_law : List Str := ["script", "row", "turn", "one", "other", "third"]
theorem sc_law : FnScope N_law ["script"] (defScope s_law) := ⟨rfl, rfl, rfl, by decide +kernel, rfl, by decide +kernel, by decide +kernel⟩
structure Tx (K : PySem.W.Frag) (mg : Str → Option Value) (f_law_alike f_law_taken f_law_pick f_law_number f_law_rank f_is_in f_need_number f_place_of f_comes_before f_law : Addr) (fd_law_alike fd_law_taken fd_law_pick fd_law_number fd_law_rank fd_is_in fd_need_number fd_place_of fd_comes_before fd_law : FuncData) (u_MOST_NUMBER : Value) : Prop where
  m_bool : mg "bool" = none
  m_int : mg "int" = none
  m_isinstance : mg "isinstance" = none
  m_len : mg "len" = none
  m_list : mg "list" = none
  m_range : mg "range" = none
  m_str : mg "str" = none
  m_tuple : mg "tuple" = none
  g_MOST_NUMBER : mg "MOST_NUMBER" = some u_MOST_NUMBER
  r_MOST_NUMBER : RelV (.int 1000000) u_MOST_NUMBER
  g_law_alike : mg "_law_alike" = some (.ref f_law_alike)
  F_law_alike : L2.Fun K "_law_alike" "_law_alike" s_law_alike f_law_alike fd_law_alike
  k_law_alike : PySem.W.keepIn K (.ref f_law_alike) = true
  b_law_alike : Binds K fd_law_alike ["found", "due"] []
  g_law_taken : mg "_law_taken" = some (.ref f_law_taken)
  F_law_taken : L2.Fun K "_law_taken" "_law_taken" s_law_taken f_law_taken fd_law_taken
  k_law_taken : PySem.W.keepIn K (.ref f_law_taken) = true
  b_law_taken : Binds K fd_law_taken ["row", "many"] []
  g_law_pick : mg "_law_pick" = some (.ref f_law_pick)
  F_law_pick : L2.Fun K "_law_pick" "_law_pick" s_law_pick f_law_pick fd_law_pick
  k_law_pick : PySem.W.keepIn K (.ref f_law_pick) = true
  b_law_pick : Binds K fd_law_pick ["row", "things"] []
  g_law_number : mg "_law_number" = some (.ref f_law_number)
  F_law_number : L2.Fun K "_law_number" "_law_number" s_law_number f_law_number fd_law_number
  k_law_number : PySem.W.keepIn K (.ref f_law_number) = true
  b_law_number : Binds K fd_law_number ["row"] []
  g_law_rank : mg "_law_rank" = some (.ref f_law_rank)
  F_law_rank : L2.Fun K "_law_rank" "_law_rank" s_law_rank f_law_rank fd_law_rank
  k_law_rank : PySem.W.keepIn K (.ref f_law_rank) = true
  b_law_rank : Binds K fd_law_rank ["number"] []
  g_is_in : mg "is_in" = some (.ref f_is_in)
  F_is_in : L2.Fun K "is_in" "is_in" s_is_in f_is_in fd_is_in
  k_is_in : PySem.W.keepIn K (.ref f_is_in) = true
  b_is_in : Binds K fd_is_in ["value", "least", "most"] []
  g_need_number : mg "need_number" = some (.ref f_need_number)
  F_need_number : L2.Fun K "need_number" "need_number" s_need_number f_need_number fd_need_number
  k_need_number : PySem.W.keepIn K (.ref f_need_number) = true
  b_need_number : Binds K fd_need_number ["number", "least", "most"] []
  g_place_of : mg "place_of" = some (.ref f_place_of)
  F_place_of : L2.Fun K "place_of" "place_of" s_place_of f_place_of fd_place_of
  k_place_of : PySem.W.keepIn K (.ref f_place_of) = true
  b_place_of : Binds K fd_place_of ["number"] []
  g_comes_before : mg "comes_before" = some (.ref f_comes_before)
  F_comes_before : L2.Fun K "comes_before" "comes_before" s_comes_before f_comes_before fd_comes_before
  k_comes_before : PySem.W.keepIn K (.ref f_comes_before) = true
  b_comes_before : Binds K fd_comes_before ["one", "other"] []
  g_law : mg "law" = some (.ref f_law)
  F_law : L2.Fun K "law" "law" s_law f_law fd_law
  k_law : PySem.W.keepIn K (.ref f_law) = true
  b_law : Binds K fd_law ["script"] []
section
variable {P : Program} {w : World} {K : PySem.W.Frag} {mg : Str → Option Value} {base : Heap} {f_law_alike f_law_taken f_law_pick f_law_number f_law_rank f_is_in f_need_number f_place_of f_comes_before f_law : Addr} {fd_law_alike fd_law_taken fd_law_pick fd_law_number fd_law_rank fd_is_in fd_need_number fd_place_of fd_comes_before fd_law : FuncData} {u_MOST_NUMBER : Value}
theorem ok_law_alike (Y : Tx K mg f_law_alike f_law_taken f_law_pick f_law_number f_law_rank f_is_in f_need_number f_place_of f_comes_before f_law fd_law_alike fd_law_taken fd_law_pick fd_law_number fd_law_rank fd_is_in fd_need_number fd_place_of fd_comes_before fd_law u_MOST_NUMBER) : ∀ n : Nat, FnOk P w K mg base CX0 (1 + n) f_law_alike fd_law_alike ["found", "due"] (spD K [] (F_law_alike n))
  | 0 => fnok_none
  | n + 1 => by
    have ih := ok_law_alike Y n
    have nd := sc_law_alike.nd
    exact def_ok (lk := (fun i => [true, true].getD i false)) Y.F_law_alike sc_law_alike (fun i hi => lk_out hi rfl) fun cdv A outer s H E hr => (svs_cons (sv_if (bv_tru (ov_e (ev_isa2 Y.m_isinstance Y.m_tuple Y.m_list (ov_e (ev_var 1))))) (svs_cons (sv_if (bw_or (bv_not (bv_tru (ov_e (ev_isa2 Y.m_isinstance Y.m_tuple Y.m_list (ov_e (ev_var 0)))))) (bw_or1 (bv_cmp (c2_ne hr) (ov_e (ev_isa Y.m_isinstance Y.m_list (ov_e (ev_var 0)))) (ov_e (ev_isa Y.m_isinstance Y.m_list (ov_e (ev_var 1))))))).bv (svs_one (sv_ret ev_bl)) svs_nil)
  (svs_cons (sv_if (bv_cmp (c2_ne hr) (ov_e (ev_b1 o1_len Y.m_len (ov_e (ev_var 0)))) (ov_e (ev_b1 o1_len Y.m_len (ov_e (ev_var 1))))) (svs_one (sv_ret ev_bl)) svs_nil)
  (svs_one (sv_ret (ev_cmp (c2_eq hr) (ov_e (ev_compIf (own := [("k", 2)]) rfl nd (blkOk_by (own := [("k", 2)]) (N := N_law_alike) (sc := defScope s_law_alike) (by decide +kernel)) (iv_rng1 Y.m_range (ev_b1 o1_len Y.m_len (ov_e (ev_var 1)))) (fun _ _ _ _ _ => (gv_name 2 nd)) (fun _ _ _ _ _ => (bv_not (bv_tru (ov_e (ev_call ih (hr.mono (by first | exact Nat.le_refl _ | (show _ ≤ _ + _; omega))) Y.g_law_alike Y.k_law_alike Y.b_law_alike (av_cons (ev_sub (ov_e (ev_var 0)) (ov_e (ev_var 2))) (av_cons (ev_sub (ov_e (ev_var 1)) (ov_e (ev_var 2))) av_nil))))))) (fun _ _ _ _ _ => (ev_var 2)))) (ov_e (ev_lst av_nil))))))) svs_nil)
  (svs_cons (sv_if (bw_or (bv_cmp c2_is (ov_e (ev_var 1)) (ov_e ev_non)) (bw_or1 (bv_tru (ov_e (ev_isa Y.m_isinstance Y.m_str (ov_e (ev_var 1))))))).bv (svs_one (sv_ret (ev_and (ev_cmp (c2_eq hr) (ov_e (ev_var 0)) (ov_e (ev_var 1))) (ev_one (ev_cmp (c2_eq hr) (ov_e (ev_isa Y.m_isinstance Y.m_str (ov_e (ev_var 0)))) (ov_e (ev_isa Y.m_isinstance Y.m_str (ov_e (ev_var 1))))))))) svs_nil)
  (svs_one (sv_ret (ev_and (ev_isa Y.m_isinstance Y.m_int (ov_e (ev_var 0))) (ev_and (ev_cmp (c2_eq hr) (ov_e (ev_isa Y.m_isinstance Y.m_bool (ov_e (ev_var 0)))) (ov_e (ev_isa Y.m_isinstance Y.m_bool (ov_e (ev_var 1))))) (ev_one (ev_cmp (c2_eq hr) (ov_e (ev_var 0)) (ov_e (ev_var 1))))))))))
theorem hc_law_alike (Y : Tx K mg f_law_alike f_law_taken f_law_pick f_law_number f_law_rank f_is_in f_need_number f_place_of f_comes_before f_law fd_law_alike fd_law_taken fd_law_pick fd_law_number fd_law_rank fd_is_in fd_need_number fd_place_of fd_comes_before fd_law u_MOST_NUMBER) : FnOk P w K mg base CX0 13 f_law_alike fd_law_alike ["found", "due"] (spD K [] (F_law_alike 12)) := ok_law_alike Y 12
theorem hc_law_taken (Y : Tx K mg f_law_alike f_law_taken f_law_pick f_law_number f_law_rank f_is_in f_need_number f_place_of f_comes_before f_law fd_law_alike fd_law_taken fd_law_pick fd_law_number fd_law_rank fd_is_in fd_need_number fd_place_of fd_comes_before fd_law u_MOST_NUMBER) : FnOk P w K mg base CX0 1 f_law_taken fd_law_taken ["row", "many"] (spD K [] F_law_taken) := by
  have nd := sc_law_taken.nd
  exact def_ok (lk := (fun i => [true, true].getD i false)) Y.F_law_taken sc_law_taken (fun i hi => lk_out hi rfl) fun cdv A outer s H E hr => (svs_cons (sv_if (bv_cmp c2_gt (ov_e (ev_sub (ov_s 0) (ov_e ev_int))) (ov_e ev_int)) (svs_cons (sv_set 2 nd (ev_bin o2_mod (ov_e (ev_t1 o1_int Y.m_int (ov_e (ev_sub (ov_s 0) (ov_e ev_int))))) (ov_e (ev_var 1))))
  (svs_cons (sv_sub 0 (ev_bin o2_div (ov_e (ev_sub (ov_s 0) (ov_e ev_int))) (ov_e (ev_var 1))) ev_int)
  (svs_one (sv_ret (ev_var 2))))) svs_nil)
  (svs_cons (sv_sub 0 (ev_bin o2_add (ov_e (ev_sub (ov_s 0) (ov_e ev_int))) (ov_e ev_int)) ev_int)
  (svs_cons (sv_if (bv_cmp c2_gt (ov_e (ev_sub (ov_s 0) (ov_e ev_int))) (ov_e (ev_b1 o1_len Y.m_len (ov_e (ev_sub (ov_s 0) (ov_e ev_int)))))) (svs_cons (sv_sub 0 (ev_bin o2_mod (ov_e (ev_t1 o1_int Y.m_int (ov_e (ev_bin o2_add (ov_e (ev_bin o2_mul (ov_e (ev_sub (ov_s 0) (ov_e ev_int))) (ov_e ev_int))) (ov_e ev_int))))) (ov_e ev_int)) ev_int)
  (svs_one (sv_ret (ev_bin o2_mod (ov_e (ev_t1 o1_int Y.m_int (ov_e (ev_bin o2_div (ov_e (ev_sub (ov_s 0) (ov_e ev_int))) (ov_e ev_int))))) (ov_e (ev_var 1)))))) svs_nil)
  (svs_cons (sv_set 3 nd (ev_sub (ov_e (ev_sub (ov_s 0) (ov_e ev_int))) (ov_e (ev_bin o2_sub (ov_e (ev_sub (ov_s 0) (ov_e ev_int))) (ov_e ev_int)))))
  (svs_cons (sv_sub 0 (ev_bin o2_mod (ov_e (ev_t1 o1_int Y.m_int (ov_e (ev_bin o2_add (ov_e (ev_bin o2_add (ov_e (ev_bin o2_mul (ov_e (ev_sub (ov_s 0) (ov_e ev_int))) (ov_e ev_int))) (ov_e (ev_var 3)))) (ov_e ev_int))))) (ov_e ev_int)) ev_int)
  (svs_cons (sv_if (bv_cmp c2_ge (ov_e (ev_var 3)) (ov_e (ev_bin o2_pow (ov_e ev_int) (ov_e ev_int)))) (svs_one (sv_sub 0 (ev_bin o2_div (ov_e (ev_var 3)) (ov_e (ev_var 1))) ev_int)) svs_nil)
  (svs_one (sv_ret (ev_bin o2_mod (ov_e (ev_t1 o1_int Y.m_int (ov_e (ev_var 3)))) (ov_e (ev_var 1)))))))))))
theorem hc_law_pick (Y : Tx K mg f_law_alike f_law_taken f_law_pick f_law_number f_law_rank f_is_in f_need_number f_place_of f_comes_before f_law fd_law_alike fd_law_taken fd_law_pick fd_law_number fd_law_rank fd_is_in fd_need_number fd_place_of fd_comes_before fd_law u_MOST_NUMBER) : FnOk P w K mg base CX0 2 f_law_pick fd_law_pick ["row", "things"] (spD K [] F_law_pick) := by
  have nd := sc_law_pick.nd
  exact def_ok (lk := (fun i => [true, true].getD i false)) Y.F_law_pick sc_law_pick (fun i hi => lk_out hi rfl) fun cdv A outer s H E hr => (svs_one (sv_ret (ev_sub (ov_e (ev_var 1)) (ov_e (ev_call (hc_law_taken Y) (hr.mono (by decide)) Y.g_law_taken Y.k_law_taken Y.b_law_taken (av_own 0 (av_cons (ev_fr (ev_b1 o1_len Y.m_len (ov_e (ev_var 1)))) av_nil)))))))
theorem hc_law_number (Y : Tx K mg f_law_alike f_law_taken f_law_pick f_law_number f_law_rank f_is_in f_need_number f_place_of f_comes_before f_law fd_law_alike fd_law_taken fd_law_pick fd_law_number fd_law_rank fd_is_in fd_need_number fd_place_of fd_comes_before fd_law u_MOST_NUMBER) : FnOk P w K mg base CX0 3 f_law_number fd_law_number ["row"] (spD K [] F_law_number) := by
  have nd := sc_law_number.nd
  exact def_ok (lk := (fun i => [true].getD i false)) Y.F_law_number sc_law_number (fun i hi => lk_out hi rfl) fun cdv A outer s H E hr => (svs_cons (sv_setF 1 nd (ev_call (hc_law_pick Y) (hr.mono (by decide)) Y.g_law_pick Y.k_law_pick Y.b_law_pick (av_own 0 (av_cons (ev_fr (ev_lst (av_cons ev_int (av_cons ev_int (av_cons ev_int (av_cons ev_int (av_cons ev_int (av_cons ev_int (av_cons (ev_bin o2_add (ov_e (ev_bin o2_mul (ov_e ev_int) (ov_e (ev_call (hc_law_taken Y) (hr.mono (by decide)) Y.g_law_taken Y.k_law_taken Y.b_law_taken (av_own 0 (av_cons ev_int av_nil)))))) (ov_e ev_int)) av_nil))))))))) av_nil))))
  (svs_cons (sv_for PassesOwn.never rfl (iv_rng1 Y.m_range (ev_call (hc_law_taken Y) (hr.mono (by decide)) Y.g_law_taken Y.k_law_taken Y.b_law_taken (av_own 0 (av_cons ev_int av_nil)))) (gv_name 2 nd) (svs_one (sv_setF 1 nd (ev_if (bv_cmp c2_le (ov_e (ev_bin o2_mul (ov_e ev_int) (ov_e (ev_var 1)))) (ov_e ev_int)) (ev_bin o2_mul (ov_e ev_int) (ov_e (ev_var 1))) (ev_var 1)))))
  (svs_one (sv_ret (ev_var 1)))))
theorem hc_law_rank (Y : Tx K mg f_law_alike f_law_taken f_law_pick f_law_number f_law_rank f_is_in f_need_number f_place_of f_comes_before f_law fd_law_alike fd_law_taken fd_law_pick fd_law_number fd_law_rank fd_is_in fd_need_number fd_place_of fd_comes_before fd_law u_MOST_NUMBER) : FnOk P w K mg base CX0 1 f_law_rank fd_law_rank ["number"] (spD K [] F_law_rank) := by
  have nd := sc_law_rank.nd
  exact def_ok (lk := (fun i => [false].getD i false)) Y.F_law_rank sc_law_rank (fun i hi => lk_out hi rfl) fun cdv A outer s H E hr => (svs_cons (sv_set 1 nd ev_int)
  (svs_cons (sv_for PassesOwn.never rfl (iv_rng1 Y.m_range ev_int) (gv_name 2 nd) (svs_cons (sv_if (bv_cmp (c2_eq hr) (ov_e (ev_bin o2_mod (ov_e (ev_t1 o1_int Y.m_int (ov_e (ev_var 0)))) (ov_e ev_int))) (ov_e ev_int)) (svs_one sv_brk) svs_nil)
  (svs_one (sv_par2 0 1 rfl nd (ev_bin o2_div (ov_e (ev_var 0)) (ov_e ev_int)) (ev_fr (ev_bin o2_add (ov_e (ev_var 1)) (ov_e ev_int)))))))
  (svs_one (sv_ret (ev_if (bv_cmp (c2_eq hr) (ov_e (ev_var 0)) (ov_e ev_int)) (ev_tup (av_cons ev_int (av_cons (ev_bin o2_sub (ov_e ev_int) (ov_e (ev_var 1))) (av_cons ev_int av_nil)))) (ev_tup (av_cons ev_int (av_cons (ev_var 1) (av_cons (ev_var 0) av_nil)))))))))
theorem hc_is_in (Y : Tx K mg f_law_alike f_law_taken f_law_pick f_law_number f_law_rank f_is_in f_need_number f_place_of f_comes_before f_law fd_law_alike fd_law_taken fd_law_pick fd_law_number fd_law_rank fd_is_in fd_need_number fd_place_of fd_comes_before fd_law u_MOST_NUMBER) : FnOk P w K mg base CX0 1 f_is_in fd_is_in ["value", "least", "most"] (spD K [] F_is_in) := by
  have nd := sc_is_in.nd
  exact def_ok (lk := (fun i => [true, true, true].getD i false)) Y.F_is_in sc_is_in (fun i hi => lk_out hi rfl) fun cdv A outer s H E hr => (svs_one (sv_ret (ev_and (ev_isa Y.m_isinstance Y.m_int (ov_e (ev_var 0))) (ev_and (ev_not (ev_isa Y.m_isinstance Y.m_bool (ov_e (ev_var 0)))) (ev_one (ev_chain c2_le c2_le (ev_var 1) (ev_var 0) (ev_var 2)))))))
theorem hc_need_number (Y : Tx K mg f_law_alike f_law_taken f_law_pick f_law_number f_law_rank f_is_in f_need_number f_place_of f_comes_before f_law fd_law_alike fd_law_taken fd_law_pick fd_law_number fd_law_rank fd_is_in fd_need_number fd_place_of fd_comes_before fd_law u_MOST_NUMBER) : FnOk P w K mg base CX0 2 f_need_number fd_need_number ["number", "least", "most"] (spD K [] F_need_number) := by
  have nd := sc_need_number.nd
  exact def_ok (lk := (fun i => [true, true, true].getD i false)) Y.F_need_number sc_need_number (fun i hi => lk_out hi rfl) fun cdv A outer s H E hr => (svs_one (sv_if (bv_not (bv_tru (ov_e (ev_call (hc_is_in Y) (hr.mono (by decide)) Y.g_is_in Y.k_is_in Y.b_is_in (av_cons (ev_var 0) (av_cons (ev_var 1) (av_cons (ev_var 2) av_nil))))))) (svs_one sv_nev) svs_nil))
theorem hc_place_of (Y : Tx K mg f_law_alike f_law_taken f_law_pick f_law_number f_law_rank f_is_in f_need_number f_place_of f_comes_before f_law fd_law_alike fd_law_taken fd_law_pick fd_law_number fd_law_rank fd_is_in fd_need_number fd_place_of fd_comes_before fd_law u_MOST_NUMBER) : FnOk P w K mg base CX0 1 f_place_of fd_place_of ["number"] (spD K [] F_place_of) := by
  have nd := sc_place_of.nd
  exact def_ok (lk := (fun i => [true].getD i false)) Y.F_place_of sc_place_of (fun i hi => lk_out hi rfl) fun cdv A outer s H E hr => (svs_cons (sv_par2 1 2 rfl nd ev_int (ev_var 0))
  (svs_cons (sv_while FU PassesOwn.never (bv_cmp (c2_eq hr) (ov_e (ev_bin o2_mod (ov_e (ev_var 2)) (ov_e ev_int))) (ov_e ev_int)) (svs_one (sv_par2 1 2 rfl nd (ev_fr (ev_bin o2_add (ov_e (ev_var 1)) (ov_e ev_int))) (ev_bin o2_div (ov_e (ev_var 2)) (ov_e ev_int)))))
  (svs_one (sv_ret (ev_if (bv_cmp (c2_eq hr) (ov_e (ev_var 2)) (ov_e ev_int)) (ev_tup (av_cons ev_int (av_cons (ev_bin o2_sub (ov_e ev_int) (ov_e (ev_var 1))) (av_cons ev_int av_nil)))) (ev_tup (av_cons ev_int (av_cons (ev_var 1) (av_cons (ev_var 2) av_nil)))))))))
theorem hc_comes_before (Y : Tx K mg f_law_alike f_law_taken f_law_pick f_law_number f_law_rank f_is_in f_need_number f_place_of f_comes_before f_law fd_law_alike fd_law_taken fd_law_pick fd_law_number fd_law_rank fd_is_in fd_need_number fd_place_of fd_comes_before fd_law u_MOST_NUMBER) : FnOk P w K mg base CX0 3 f_comes_before fd_comes_before ["one", "other"] (spD K [] F_comes_before) := by
  have nd := sc_comes_before.nd
  exact def_ok (lk := (fun i => [true, true].getD i false)) Y.F_comes_before sc_comes_before (fun i hi => lk_out hi rfl) fun cdv A outer s H E hr => (svs_cons (sv_expr (ev_call (hc_need_number Y) (hr.mono (by decide)) Y.g_need_number Y.k_need_number Y.b_need_number (av_cons (ev_var 0) (av_cons ev_int (av_cons (ev_glob Y.g_MOST_NUMBER Y.r_MOST_NUMBER (fun _ => .int _)) av_nil)))))
  (svs_cons (sv_expr (ev_call (hc_need_number Y) (hr.mono (by decide)) Y.g_need_number Y.k_need_number Y.b_need_number (av_cons (ev_var 1) (av_cons ev_int (av_cons (ev_glob Y.g_MOST_NUMBER Y.r_MOST_NUMBER (fun _ => .int _)) av_nil)))))
  (svs_one (sv_ret (ev_cmp (c2_lt hr) (ov_e (ev_call (hc_place_of Y) (hr.mono (by decide)) Y.g_place_of Y.k_place_of Y.b_place_of (av_cons (ev_var 0) av_nil))) (ov_e (ev_call (hc_place_of Y) (hr.mono (by decide)) Y.g_place_of Y.k_place_of Y.b_place_of (av_cons (ev_var 1) av_nil))))))))
theorem hc_law (Y : Tx K mg f_law_alike f_law_taken f_law_pick f_law_number f_law_rank f_is_in f_need_number f_place_of f_comes_before f_law fd_law_alike fd_law_taken fd_law_pick fd_law_number fd_law_rank fd_is_in fd_need_number fd_place_of fd_comes_before fd_law u_MOST_NUMBER) : FnOk P w K mg base CX0 14 f_law fd_law ["script"] (spD K [] F_law) := by
  have nd := sc_law.nd
  exact def_ok (lk := (fun i => [true].getD i false)) Y.F_law sc_law (fun i hi => lk_out hi rfl) fun cdv A outer s H E hr => (svs_cons (sv_set 1 nd (ev_lst (av_cons (ev_var 0) (av_cons ev_int (av_cons ev_int (av_cons ev_int av_nil))))))
  (svs_cons (sv_for PassesOwn.never rfl (iv_rng1 Y.m_range ev_int) (gv_name 2 nd) (svs_cons (sv_par3 3 4 5 rfl nd (ev_fr (ev_call (hc_law_number Y) (hr.mono (by decide)) Y.g_law_number Y.k_law_number Y.b_law_number (av_own 1 av_nil))) (ev_fr (ev_call (hc_law_number Y) (hr.mono (by decide)) Y.g_law_number Y.k_law_number Y.b_law_number (av_own 1 av_nil))) (ev_fr (ev_call (hc_law_number Y) (hr.mono (by decide)) Y.g_law_number Y.k_law_number Y.b_law_number (av_own 1 av_nil))))
  (svs_cons (sv_if (bv_not (bv_tru (ov_e (ev_call (hc_law_alike Y) (hr.mono (by decide)) Y.g_law_alike Y.k_law_alike Y.b_law_alike (av_cons (ev_fr (ev_call (hc_comes_before Y) (hr.mono (by decide)) Y.g_comes_before Y.k_comes_before Y.b_comes_before (av_cons (ev_var 3) (av_cons (ev_var 4) av_nil)))) (av_cons (ev_cmp (c2_lt hr) (ov_e (ev_call (hc_law_rank Y) (hr.mono (by decide)) Y.g_law_rank Y.k_law_rank Y.b_law_rank (av_cons (ev_var 3) av_nil))) (ov_e (ev_call (hc_law_rank Y) (hr.mono (by decide)) Y.g_law_rank Y.k_law_rank Y.b_law_rank (av_cons (ev_var 4) av_nil)))) av_nil)))))) (svs_one (sv_ret ev_bl)) svs_nil)
  (svs_cons (sv_if (bw_or (bv_tru (ov_e (ev_call (hc_comes_before Y) (hr.mono (by decide)) Y.g_comes_before Y.k_comes_before Y.b_comes_before (av_cons (ev_var 3) (av_cons (ev_var 3) av_nil))))) (bw_or1 (bw_and (bv_cmp (c2_ne hr) (ov_e (ev_var 3)) (ov_e (ev_var 4))) (bw_and1 (bv_cmp (c2_eq hr) (ov_e (ev_call (hc_comes_before Y) (hr.mono (by decide)) Y.g_comes_before Y.k_comes_before Y.b_comes_before (av_cons (ev_var 3) (av_cons (ev_var 4) av_nil)))) (ov_e (ev_call (hc_comes_before Y) (hr.mono (by decide)) Y.g_comes_before Y.k_comes_before Y.b_comes_before (av_cons (ev_var 4) (av_cons (ev_var 3) av_nil))))))).bv)).bv (svs_one (sv_ret ev_bl)) svs_nil)
  (svs_one (sv_if (bw_and (bv_tru (ov_e (ev_call (hc_comes_before Y) (hr.mono (by decide)) Y.g_comes_before Y.k_comes_before Y.b_comes_before (av_cons (ev_var 3) (av_cons (ev_var 4) av_nil))))) (bw_and (bv_tru (ov_e (ev_call (hc_comes_before Y) (hr.mono (by decide)) Y.g_comes_before Y.k_comes_before Y.b_comes_before (av_cons (ev_var 4) (av_cons (ev_var 5) av_nil))))) (bw_and1 (bv_not (bv_tru (ov_e (ev_call (hc_comes_before Y) (hr.mono (by decide)) Y.g_comes_before Y.k_comes_before Y.b_comes_before (av_cons (ev_var 3) (av_cons (ev_var 5) av_nil))))))))).bv (svs_one (sv_ret ev_bl)) svs_nil))))))
  (svs_one (sv_ret ev_bl))))
end
theorem all_mk {l : PySem.W.OpenLaw} {w : World} {K : PySem.W.Frag} {h : Heap} {mg : Str → Option Value} {fa : Addr} (X : K.In h) (G : h.Ns mainGlobals mg) (hfa : mg "law" = some (.ref fa))
    {od0 an0 : Option Addr} {sl0 : Array (Option Value)} {oc0 kV0 dc0 pm0 cd0 ct0 : Value} {f0 : Addr}
    {od1 an1 : Option Addr} {sl1 : Array (Option Value)} {oc1 kV1 dc1 pm1 cd1 ct1 : Value} {f1 : Addr}
    {od2 an2 : Option Addr} {sl2 : Array (Option Value)} {oc2 kV2 dc2 pm2 cd2 ct2 : Value} {f2 : Addr}
    {od3 an3 : Option Addr} {sl3 : Array (Option Value)} {oc3 kV3 dc3 pm3 cd3 ct3 : Value} {f3 : Addr}
    {od4 an4 : Option Addr} {sl4 : Array (Option Value)} {oc4 kV4 dc4 pm4 cd4 ct4 : Value} {f4 : Addr}
    {od5 an5 : Option Addr} {sl5 : Array (Option Value)} {oc5 kV5 dc5 pm5 cd5 ct5 : Value} {f5 : Addr}
    {od6 an6 : Option Addr} {sl6 : Array (Option Value)} {oc6 kV6 dc6 pm6 cd6 ct6 : Value} {f6 : Addr}
    {od7 an7 : Option Addr} {sl7 : Array (Option Value)} {oc7 kV7 dc7 pm7 cd7 ct7 : Value} {f7 : Addr}
    {od8 an8 : Option Addr} {sl8 : Array (Option Value)} {oc8 kV8 dc8 pm8 cd8 ct8 : Value} {f8 : Addr}
    {od9 an9 : Option Addr} {sl9 : Array (Option Value)} {oc9 kV9 dc9 pm9 cd9 ct9 : Value} {f9 : Addr}
    {t_MOST_NUMBER : Tok}
    (a0 : PySem.W.nsIn K mainGlobals "_law_alike" = some (some (.ref f0))) (l0 : K.lookup f0 = some ⟨oc0, od0, .func (PySem.W.fnOf "_law_alike" "_law_alike" (defArgs s_law_alike) (defBody s_law_alike) (defScope s_law_alike) .none kV0 dc0 pm0 an0 cd0 ct0), sl0⟩) (c0 : PySem.W.codeIn K cd0 "_law_alike" = true) (k0 : PySem.W.keepIn K (.ref f0) = true)
    (a1 : PySem.W.nsIn K mainGlobals "_law_taken" = some (some (.ref f1))) (l1 : K.lookup f1 = some ⟨oc1, od1, .func (PySem.W.fnOf "_law_taken" "_law_taken" (defArgs s_law_taken) (defBody s_law_taken) (defScope s_law_taken) .none kV1 dc1 pm1 an1 cd1 ct1), sl1⟩) (c1 : PySem.W.codeIn K cd1 "_law_taken" = true) (k1 : PySem.W.keepIn K (.ref f1) = true)
    (a2 : PySem.W.nsIn K mainGlobals "_law_pick" = some (some (.ref f2))) (l2 : K.lookup f2 = some ⟨oc2, od2, .func (PySem.W.fnOf "_law_pick" "_law_pick" (defArgs s_law_pick) (defBody s_law_pick) (defScope s_law_pick) .none kV2 dc2 pm2 an2 cd2 ct2), sl2⟩) (c2 : PySem.W.codeIn K cd2 "_law_pick" = true) (k2 : PySem.W.keepIn K (.ref f2) = true)
    (a3 : PySem.W.nsIn K mainGlobals "_law_number" = some (some (.ref f3))) (l3 : K.lookup f3 = some ⟨oc3, od3, .func (PySem.W.fnOf "_law_number" "_law_number" (defArgs s_law_number) (defBody s_law_number) (defScope s_law_number) .none kV3 dc3 pm3 an3 cd3 ct3), sl3⟩) (c3 : PySem.W.codeIn K cd3 "_law_number" = true) (k3 : PySem.W.keepIn K (.ref f3) = true)
    (a4 : PySem.W.nsIn K mainGlobals "_law_rank" = some (some (.ref f4))) (l4 : K.lookup f4 = some ⟨oc4, od4, .func (PySem.W.fnOf "_law_rank" "_law_rank" (defArgs s_law_rank) (defBody s_law_rank) (defScope s_law_rank) .none kV4 dc4 pm4 an4 cd4 ct4), sl4⟩) (c4 : PySem.W.codeIn K cd4 "_law_rank" = true) (k4 : PySem.W.keepIn K (.ref f4) = true)
    (a5 : PySem.W.nsIn K mainGlobals "is_in" = some (some (.ref f5))) (l5 : K.lookup f5 = some ⟨oc5, od5, .func (PySem.W.fnOf "is_in" "is_in" (defArgs s_is_in) (defBody s_is_in) (defScope s_is_in) .none kV5 dc5 pm5 an5 cd5 ct5), sl5⟩) (c5 : PySem.W.codeIn K cd5 "is_in" = true) (k5 : PySem.W.keepIn K (.ref f5) = true)
    (a6 : PySem.W.nsIn K mainGlobals "need_number" = some (some (.ref f6))) (l6 : K.lookup f6 = some ⟨oc6, od6, .func (PySem.W.fnOf "need_number" "need_number" (defArgs s_need_number) (defBody s_need_number) (defScope s_need_number) .none kV6 dc6 pm6 an6 cd6 ct6), sl6⟩) (c6 : PySem.W.codeIn K cd6 "need_number" = true) (k6 : PySem.W.keepIn K (.ref f6) = true)
    (a7 : PySem.W.nsIn K mainGlobals "place_of" = some (some (.ref f7))) (l7 : K.lookup f7 = some ⟨oc7, od7, .func (PySem.W.fnOf "place_of" "place_of" (defArgs s_place_of) (defBody s_place_of) (defScope s_place_of) .none kV7 dc7 pm7 an7 cd7 ct7), sl7⟩) (c7 : PySem.W.codeIn K cd7 "place_of" = true) (k7 : PySem.W.keepIn K (.ref f7) = true)
    (a8 : PySem.W.nsIn K mainGlobals "comes_before" = some (some (.ref f8))) (l8 : K.lookup f8 = some ⟨oc8, od8, .func (PySem.W.fnOf "comes_before" "comes_before" (defArgs s_comes_before) (defBody s_comes_before) (defScope s_comes_before) .none kV8 dc8 pm8 an8 cd8 ct8), sl8⟩) (c8 : PySem.W.codeIn K cd8 "comes_before" = true) (k8 : PySem.W.keepIn K (.ref f8) = true)
    (a9 : PySem.W.nsIn K mainGlobals "law" = some (some (.ref f9))) (l9 : K.lookup f9 = some ⟨oc9, od9, .func (PySem.W.fnOf "law" "law" (defArgs s_law) (defBody s_law) (defScope s_law) .none kV9 dc9 pm9 an9 cd9 ct9), sl9⟩) (c9 : PySem.W.codeIn K cd9 "law" = true) (k9 : PySem.W.keepIn K (.ref f9) = true)
    (z_bool : PySem.W.nsIn K mainGlobals "bool" = some none)
    (z_int : PySem.W.nsIn K mainGlobals "int" = some none)
    (z_isinstance : PySem.W.nsIn K mainGlobals "isinstance" = some none)
    (z_len : PySem.W.nsIn K mainGlobals "len" = some none)
    (z_list : PySem.W.nsIn K mainGlobals "list" = some none)
    (z_range : PySem.W.nsIn K mainGlobals "range" = some none)
    (z_str : PySem.W.nsIn K mainGlobals "str" = some none)
    (z_tuple : PySem.W.nsIn K mainGlobals "tuple" = some none)
    (y_MOST_NUMBER : PySem.W.nsIn K mainGlobals "MOST_NUMBER" = some (some (.int 1000000 t_MOST_NUMBER)))
    : ∃ fd : FuncData, (∀ (s : Shared) (v : Value), BindsTo s fd ⟨[v], []⟩ [("script", v)]) ∧ ∀ base : Heap, K.In base → base.Ns mainGlobals mg → FnOk l.prog w K mg base CX0 14 fa fd ["script"] (spD K [] F_law) := by
  have e := hfa.symm.trans (PySem.W.mg_of X G a9)
  cases e
  have F0 := fun_mk (st := s_law_alike) l0 c0 k0
  have B0 := F0.binds (ps := ["found", "due"]) fun _ _ _ _ _ _ us hl => match us, hl with | [_, _], _ => rfl
  have F1 := fun_mk (st := s_law_taken) l1 c1 k1
  have B1 := F1.binds (ps := ["row", "many"]) fun _ _ _ _ _ _ us hl => match us, hl with | [_, _], _ => rfl
  have F2 := fun_mk (st := s_law_pick) l2 c2 k2
  have B2 := F2.binds (ps := ["row", "things"]) fun _ _ _ _ _ _ us hl => match us, hl with | [_, _], _ => rfl
  have F3 := fun_mk (st := s_law_number) l3 c3 k3
  have B3 := F3.binds (ps := ["row"]) fun _ _ _ _ _ _ us hl => match us, hl with | [_], _ => rfl
  have F4 := fun_mk (st := s_law_rank) l4 c4 k4
  have B4 := F4.binds (ps := ["number"]) fun _ _ _ _ _ _ us hl => match us, hl with | [_], _ => rfl
  have F5 := fun_mk (st := s_is_in) l5 c5 k5
  have B5 := F5.binds (ps := ["value", "least", "most"]) fun _ _ _ _ _ _ us hl => match us, hl with | [_, _, _], _ => rfl
  have F6 := fun_mk (st := s_need_number) l6 c6 k6
  have B6 := F6.binds (ps := ["number", "least", "most"]) fun _ _ _ _ _ _ us hl => match us, hl with | [_, _, _], _ => rfl
  have F7 := fun_mk (st := s_place_of) l7 c7 k7
  have B7 := F7.binds (ps := ["number"]) fun _ _ _ _ _ _ us hl => match us, hl with | [_], _ => rfl
  have F8 := fun_mk (st := s_comes_before) l8 c8 k8
  have B8 := F8.binds (ps := ["one", "other"]) fun _ _ _ _ _ _ us hl => match us, hl with | [_, _], _ => rfl
  have F9 := fun_mk (st := s_law) l9 c9 k9
  have B9 := F9.binds (ps := ["script"]) fun _ _ _ _ _ _ us hl => match us, hl with | [_], _ => rfl
  exact ⟨PySem.W.fnOf "law" "law" (defArgs s_law) (defBody s_law) (defScope s_law) .none kV9 dc9 pm9 an9 cd9 ct9, fun s v => .of_eq rfl, fun base _ _ => hc_law ⟨PySem.W.mg_none_of X G z_bool, PySem.W.mg_none_of X G z_int, PySem.W.mg_none_of X G z_isinstance, PySem.W.mg_none_of X G z_len, PySem.W.mg_none_of X G z_list, PySem.W.mg_none_of X G z_range, PySem.W.mg_none_of X G z_str, PySem.W.mg_none_of X G z_tuple, PySem.W.mg_of X G y_MOST_NUMBER, ⟨_, rfl⟩, PySem.W.mg_of X G a0, F0, F0.kp, B0, PySem.W.mg_of X G a1, F1, F1.kp, B1, PySem.W.mg_of X G a2, F2, F2.kp, B2, PySem.W.mg_of X G a3, F3, F3.kp, B3, PySem.W.mg_of X G a4, F4, F4.kp, B4, PySem.W.mg_of X G a5, F5, F5.kp, B5, PySem.W.mg_of X G a6, F6, F6.kp, B6, PySem.W.mg_of X G a7, F7, F7.kp, B7, PySem.W.mg_of X G a8, F8, F8.kp, B8, PySem.W.mg_of X G a9, F9, F9.kp, B9⟩⟩
end Sh.K56

/-! law k56: Sharkovskii's order, in plain Lean. -/
namespace Sh.K56
open PySem Sh
theorem taken_eq : F_law_taken = F_taken := rfl
theorem alike_eq : ∀ n, F_law_alike n = F_alike n
  | 0 => rfl
  | n + 1 => by
    unfold F_law_alike F_alike
    rw [alike_eq n]
theorem tk {ns : List Int} {o : O} {m : Int} (h : Rw ns o) (hm : 0 < m) (hm2 : m < 1073741824) :
    ∃ v o', F_law_taken [o, .d (.int m)] = some (.d (.int v), [some o', some (.d (.int m))]) ∧ 0 ≤ v ∧ v < m ∧ Rw ns o' := taken_ok h hm hm2
theorem alike_int (x : D) (h : fitD 12 x = true) : F_law_alike 12 [.d x, .d x] = some (.d (.bool true), [some (.d x), some (.d x)]) := by
  rw [alike_eq]
  exact alike_refl 12 x h
/-- a list of ints picked from -/
theorem pick_ok {ns : List Int} {o : O} (xs : List D) (h : Rw ns o) (hl : 0 < xs.length) (hl2 : xs.length < 1000) :
    ∃ x o', F_law_pick [o, .d (.list xs)] = some (.d x, [some o', some (.d (.list xs))]) ∧ x ∈ xs ∧ Rw ns o' := by
  obtain ⟨v, o', e, h1, h2, h3⟩ := tk h (m := (xs.length : Int)) (by omega) (by omega)
  have hi : v.toNat < xs.length := by omega
  have hx : xs[v.toNat]? = some xs[v.toNat] := List.getElem?_eq_getElem hi
  refine ⟨xs[v.toNat], o', ?_, List.getElem_mem hi, h3⟩
  unfold F_law_pick runDef B_law_pick
  simp [e, L2.atI, L2.ixN, h1, h2, hx]
theorem double_loop : ∀ (ds : List D) (o : O) (v : Int) (x : Option O), 1 ≤ v → v ≤ 1000000 →
    ∃ v' x', forLoop (tName 2) (sSetF 1 (eIf (bOp2 gLe (pV (eOp2 gMul (pV (eC (.int 2))) (pV (eVar 1)))) (pV (eC (.int 1000000)))) (eOp2 gMul (pV (eC (.int 2))) (pV (eVar 1))) (eVar 1))) ds [some o, some (.d (.int v)), x] =
      some (.nx [some o, some (.d (.int v')), x']) ∧ 1 ≤ v' ∧ v' ≤ 1000000
  | [], o, v, x, h1, h2 => ⟨v, x, rfl, h1, h2⟩
  | d :: ds, o, v, x, h1, h2 => by
    unfold forLoop
    by_cases h : 2 * v ≤ 1000000
    · obtain ⟨v', x', e, q1, q2⟩ := double_loop ds o (2 * v) (some (.d d)) (by omega) h
      refine ⟨v', x', ?_, q1, q2⟩
      simp [h, e]
    · obtain ⟨v', x', e, q1, q2⟩ := double_loop ds o v (some (.d d)) h1 h2
      refine ⟨v', x', ?_, q1, q2⟩
      simp [h, e]
theorem number_ok {ns : List Int} {o : O} (h : Rw ns o) : ∃ v o', F_law_number [o] = some (.d (.int v), [some o']) ∧ 1 ≤ v ∧ v ≤ 1000000 ∧ Rw ns o' := by
  obtain ⟨v1, o1, e1, h1, h2, h3⟩ := tk h (m := 500000) (by omega) (by omega)
  obtain ⟨x2, o2, e2, m2, h4⟩ := pick_ok [.int 1, .int 1, .int 3, .int 5, .int 7, .int 9, .int (2 * v1 + 1)] h3 (by simp) (by simp)
  obtain ⟨v3, o3, e3, h5, h6, h7⟩ := tk h4 (m := 20) (by omega) (by omega)
  have hx : ∃ w : Int, x2 = .int w ∧ 1 ≤ w ∧ w ≤ 1000000 := by
    simp only [List.mem_cons, List.not_mem_nil, or_false] at m2
    rcases m2 with rfl | rfl | rfl | rfl | rfl | rfl | rfl <;> exact ⟨_, rfl, by omega, by omega⟩
  obtain ⟨w, rfl, w1, w2⟩ := hx
  obtain ⟨v', x', e4, q1, q2⟩ := double_loop (rangeD 0 v3) o3 w none w1 w2
  refine ⟨v', o3, ?_, q1, q2, h7⟩
  unfold F_law_number runDef B_law_number
  have r1 : v3 ≤ 1000000 := by omega
  have r2 : -1000000 ≤ v3 := by omega
  simp [e1, e2, e3, r1, r2, e4]

/-! ### the mathematics -/
/-- how often two divides, and what is left -/
def two (n : Nat) : Nat × Nat := if h : n % 2 = 0 ∧ 0 < n then ((two (n / 2)).1 + 1, (two (n / 2)).2) else (0, n)
termination_by n
decreasing_by all_goals omega
theorem two_even {n : Nat} (h : n % 2 = 0) (h0 : 0 < n) : two n = ((two (n / 2)).1 + 1, (two (n / 2)).2) := by
  rw [two, dif_pos ⟨h, h0⟩]
theorem two_odd {n : Nat} (h : n % 2 = 1) : two n = (0, n) := by
  rw [two, dif_neg (by omega)]
theorem two_eq : ∀ (k n : Nat), n ≤ k → 0 < n → n = 2 ^ (two n).1 * (two n).2 ∧ (two n).2 % 2 = 1
  | 0, n, h, h0 => by omega
  | k + 1, n, h, h0 => by
    by_cases he : n % 2 = 0
    · have ih := two_eq k (n / 2) (by omega) (by omega)
      rw [two_even he h0]
      refine ⟨?_, ih.2⟩
      show n = 2 ^ ((two (n / 2)).1 + 1) * (two (n / 2)).2
      rw [Nat.pow_succ, Nat.mul_comm _ 2, Nat.mul_assoc, ← ih.1]
      omega
    · rw [two_odd (by omega)]
      exact ⟨by simp, by show n % 2 = 1; omega⟩
theorem two_small {n : Nat} (h0 : 0 < n) (h : n ≤ 1000000) : (two n).1 < 20 := by
  obtain ⟨e, o⟩ := two_eq n n (Nat.le_refl _) h0
  by_cases hh : (two n).1 < 20
  · exact hh
  · have h1 : 2 ^ 20 ≤ 2 ^ (two n).1 := Nat.pow_le_pow_right (by decide) (by omega)
    have h2 : 0 < (two n).2 := by omega
    have h3 : 2 ^ (two n).1 * 1 ≤ 2 ^ (two n).1 * (two n).2 := Nat.mul_le_mul_left _ h2
    have h4 : (2 : Nat) ^ 20 = 1048576 := by decide
    omega
theorem two_inj {a b : Nat} (ha : 0 < a) (hb : 0 < b) (h : two a = two b) : a = b := by
  rw [(two_eq a a (Nat.le_refl _) ha).1, (two_eq b b (Nat.le_refl _) hb).1, h]
/-- where it stands in the order -/
def rk (n : Nat) : Int × Int × Int := if (two n).2 = 1 then (1, 0 - ((two n).1 : Int), 0) else (0, ((two n).1 : Int), ((two n).2 : Int))
def rkL (n : Nat) : List Int := [(rk n).1, (rk n).2.1, (rk n).2.2]
def before (a b : Nat) : Bool := HT.lexLt (rkL a) (rkL b)
theorem lex3 (a b c x y z : Int) : HT.lexLt [a, b, c] [x, y, z] = decide (a < x ∨ a = x ∧ (b < y ∨ b = y ∧ c < z)) := by
  simp only [HT.lexLt]
  by_cases h1 : a = x
  · by_cases h2 : b = y
    · by_cases h3 : c = z
      · simp [h1, h2, h3]
      · simp [h1, h2, h3]
    · simp [h1, h2]
  · simp [h1]
theorem rk_inj {a b : Nat} (ha : 0 < a) (hb : 0 < b) (h : rk a = rk b) : a = b := by
  apply two_inj ha hb
  unfold rk at h
  by_cases h1 : (two a).2 = 1 <;> by_cases h2 : (two b).2 = 1 <;> simp [h1, h2] at h <;> (apply Prod.ext <;> omega)
theorem before_self (a : Nat) : before a a = false := by
  unfold before rkL
  rw [lex3]
  simp
theorem before_other {a b : Nat} (ha : 0 < a) (hb : 0 < b) (h : a ≠ b) : before a b ≠ before b a := by
  have hne : rk a ≠ rk b := fun e => h (rk_inj ha hb e)
  have hne' : ¬ ((rk a).1 = (rk b).1 ∧ (rk a).2.1 = (rk b).2.1 ∧ (rk a).2.2 = (rk b).2.2) := fun ⟨e1, e2, e3⟩ => hne (Prod.ext e1 (Prod.ext e2 e3))
  unfold before rkL
  rw [lex3, lex3]
  intro e
  rw [decide_eq_decide] at e
  omega
theorem before_trans {a b c : Nat} (h1 : before a b = true) (h2 : before b c = true) : before a c = true := by
  unfold before rkL at *
  rw [lex3, decide_eq_true_eq] at *
  omega
/-! ### the defs -/
theorem place_loop : ∀ (k n : Nat) (m : Nat) (t : Int) (x : Option O), n ≤ k → 0 < n → (two n).1 < m →
    whileLoop (bOp2 gEq (pV (eOp2 gMod (pV (eVar 2)) (pV (eC (.int 2))))) (pV (eC (.int 0)))) (sPar2 1 2 (eFr (eOp2 gAdd (pV (eVar 1)) (pV (eC (.int 1))))) (eOp2 gDiv (pV (eVar 2)) (pV (eC (.int 2))))) m [x, some (.d (.int t)), some (.d (.int (n : Nat)))] =
      some (.nx [x, some (.d (.int (t + ((two n).1 : Int)))), some (.d (.int ((two n).2 : Int)))])
  | 0, n, m, t, x, h, h0, hm => by omega
  | k + 1, n, m, t, x, h, h0, hm => by
    cases m with
    | zero => omega
    | succ m =>
      unfold whileLoop
      by_cases he : n % 2 = 0
      · have e1 : ((n : Int) % 2) = 0 := by omega
        have e2 : ((n : Int) / 2) = ((n / 2 : Nat) : Int) := by omega
        have et := two_even he h0
        have ih := place_loop k (n / 2) m (t + 1) x (by omega) (by omega) (by rw [et] at hm; simp at hm; omega)
        rw [et]
        simp [e1, shaped_int, eqv_int]
        rw [show (↑n : Int) / 2 = ((n / 2 : Nat) : Int) from e2, ih]
        simp
        omega
      · have e1 : ((n : Int) % 2) = 1 := by omega
        rw [two_odd (by omega)]
        simp [e1, shaped_int, eqv_int]
theorem place_ok {n : Nat} (h0 : 0 < n) (h : n ≤ 1000000) : F_place_of [.d (.int (n : Nat))] = some (.d (.tuple ((rkL n).map .int)), [some (.d (.int (n : Nat)))]) := by
  have hl := place_loop n n FU 0 (some (.d (.int (n : Nat)))) (Nat.le_refl _) h0 (by
    have := two_small h0 h
    show _ < 1000000000
    omega)
  unfold F_place_of runDef B_place_of
  by_cases h1 : (two n).2 = 1
  · simp [hl, h1, shaped_int, eqv_int, rkL, rk]
  · have h2 : ¬ ((two n).2 : Int) = 1 := by omega
    simp [hl, h1, h2, shaped_int, eqv_int, rkL, rk]
theorem rank_loop : ∀ (ds : List D) (n : Nat) (t : Int) (x : Option O), 0 < n → (two n).1 ≤ ds.length →
    ∃ x', forLoop (tName 2) (sSeq (sIf (bOp2 gEq (pV (eOp2 gMod (pV (eOp1 gInt (pV (eVar 0)))) (pV (eC (.int 2))))) (pV (eC (.int 1)))) sBrk sNil)
  (sPar2 0 1 (eOp2 gDiv (pV (eVar 0)) (pV (eC (.int 2)))) (eFr (eOp2 gAdd (pV (eVar 1)) (pV (eC (.int 1))))))) ds [some (.d (.int (n : Nat))), some (.d (.int t)), x] =
      some (.nx [some (.d (.int ((two n).2 : Int))), some (.d (.int (t + ((two n).1 : Int)))), x'])
  | [], n, t, x, h0, hl => by
    by_cases he : n % 2 = 0
    · rw [two_even he h0] at hl
      simp at hl
    · rw [two_odd (by omega)]
      exact ⟨x, by simp [forLoop]⟩
  | d :: ds, n, t, x, h0, hl => by
    unfold forLoop
    by_cases he : n % 2 = 0
    · have e1 : ((n : Int) % 2) = 0 := by omega
      have e2 : ((n : Int) / 2) = ((n / 2 : Nat) : Int) := by omega
      have et := two_even he h0
      obtain ⟨x', ih⟩ := rank_loop ds (n / 2) (t + 1) (some (.d d)) (by omega) (by rw [et] at hl; simp at hl; omega)
      refine ⟨x', ?_⟩
      rw [et]
      simp [e1, shaped_int, eqv_int]
      rw [show (↑n : Int) / 2 = ((n / 2 : Nat) : Int) from e2, ih]
      simp
      omega
    · have e1 : ((n : Int) % 2) = 1 := by omega
      rw [two_odd (by omega)]
      exact ⟨some (.d d), by simp [e1, shaped_int, eqv_int]⟩
theorem rank_ok {n : Nat} (h0 : 0 < n) (h : n ≤ 1000000) : F_law_rank [.d (.int (n : Nat))] = some (.d (.tuple ((rkL n).map .int)), [none]) := by
  obtain ⟨x', hl⟩ := rank_loop (rangeD 0 30) n 0 none h0 (by
    have := two_small h0 h
    rw [show (30 : Int) = ((30 : Nat) : Int) from rfl, rangeD_zero]
    simp
    omega)
  unfold F_law_rank runDef B_law_rank
  by_cases h1 : (two n).2 = 1
  · simp [hl, h1, shaped_int, eqv_int, rkL, rk]
  · have h2 : ¬ ((two n).2 : Int) = 1 := by omega
    simp [hl, h1, h2, shaped_int, eqv_int, rkL, rk]
theorem need_ok {n : Nat} (h0 : 0 < n) (h : n ≤ 1000000) : F_need_number [.d (.int (n : Nat)), .d (.int 1), .d (.int 1000000)] = some (.d .none, [some (.d (.int (n : Nat))), some (.d (.int 1)), some (.d (.int 1000000))]) := by
  have e : F_is_in [.d (.int (n : Nat)), .d (.int 1), .d (.int 1000000)] = some (.d (.bool true), [some (.d (.int (n : Nat))), some (.d (.int 1)), some (.d (.int 1000000))]) := by
    have h1 : (1 : Int) ≤ (n : Int) := by omega
    have h2 : (n : Int) ≤ 1000000 := by omega
    unfold F_is_in runDef B_is_in
    simp [h1, h2]
  unfold F_need_number runDef B_need_number
  simp [e]
theorem comes_ok {a b : Nat} (ha : 0 < a) (ha2 : a ≤ 1000000) (hb : 0 < b) (hb2 : b ≤ 1000000) : F_comes_before [.d (.int (a : Nat)), .d (.int (b : Nat))] = some (.d (.bool (before a b)), [some (.d (.int (a : Nat))), some (.d (.int (b : Nat)))]) := by
  unfold F_comes_before runDef B_comes_before
  simp [need_ok ha ha2, need_ok hb hb2, place_ok ha ha2, place_ok hb hb2, rkL, before]

/-! ### the law -/
def bodyL : Sx := (sSeq (sPar3 3 4 5 (eFr (eCall F_law_number [some 1] (aOwn 1 aNil))) (eFr (eCall F_law_number [some 1] (aOwn 1 aNil))) (eFr (eCall F_law_number [some 1] (aOwn 1 aNil))))
  (sSeq (sIf (bNot (bTru (pV (eCall (F_law_alike 12) [none, none] (aCons (eFr (eCall F_comes_before [none, none] (aCons (eVar 3) (aCons (eVar 4) aNil)))) (aCons (eOp2 (gB gLt) (pV (eCall F_law_rank [none] (aCons (eVar 3) aNil))) (pV (eCall F_law_rank [none] (aCons (eVar 4) aNil)))) aNil)))))) (sRet (eC (.bool false))) sNil)
  (sSeq (sIf (bOr (bTru (pV (eCall F_comes_before [none, none] (aCons (eVar 3) (aCons (eVar 3) aNil))))) (bAnd (bOp2 gNe (pV (eVar 3)) (pV (eVar 4))) (bOp2 gEq (pV (eCall F_comes_before [none, none] (aCons (eVar 3) (aCons (eVar 4) aNil)))) (pV (eCall F_comes_before [none, none] (aCons (eVar 4) (aCons (eVar 3) aNil))))))) (sRet (eC (.bool false))) sNil)
  (sIf (bAnd (bTru (pV (eCall F_comes_before [none, none] (aCons (eVar 3) (aCons (eVar 4) aNil))))) (bAnd (bTru (pV (eCall F_comes_before [none, none] (aCons (eVar 4) (aCons (eVar 5) aNil))))) (bNot (bTru (pV (eCall F_comes_before [none, none] (aCons (eVar 3) (aCons (eVar 5) aNil)))))))) (sRet (eC (.bool false))) sNil))))
theorem body_ok {ns : List Int} {s o : O} {x2 x3 x4 x5 : Option O} (h : Rw ns o) : ∃ o' y3 y4 y5, bodyL [some s, some o, x2, x3, x4, x5] = some (.nx [some s, some o', x2, y3, y4, y5]) ∧ Rw ns o' := by
  obtain ⟨v1, o1, e1, p1, q1, h1⟩ := number_ok h
  obtain ⟨v2, o2, e2, p2, q2, h2⟩ := number_ok h1
  obtain ⟨v3, o3, e3, p3, q3, h3⟩ := number_ok h2
  obtain ⟨a, rfl⟩ : ∃ a : Nat, v1 = (a : Int) := ⟨v1.toNat, by omega⟩
  obtain ⟨b, rfl⟩ : ∃ a : Nat, v2 = (a : Int) := ⟨v2.toNat, by omega⟩
  obtain ⟨c, rfl⟩ : ∃ a : Nat, v3 = (a : Int) := ⟨v3.toNat, by omega⟩
  refine ⟨o3, some (.d (.int a)), some (.d (.int b)), some (.d (.int c)), ?_, h3⟩
  have ha : 0 < a := by omega
  have hb : 0 < b := by omega
  have hc : 0 < c := by omega
  have ha2 : a ≤ 1000000 := by omega
  have hb2 : b ≤ 1000000 := by omega
  have hc2 : c ≤ 1000000 := by omega
  have cab := comes_ok ha ha2 hb hb2
  have cba := comes_ok hb hb2 ha ha2
  have caa := comes_ok ha ha2 ha ha2
  have cbc := comes_ok hb hb2 hc hc2
  have cac := comes_ok ha ha2 hc hc2
  have ra := rank_ok ha ha2
  have rb := rank_ok hb hb2
  have al := alike_int (.bool (before a b)) (by rfl)
  have t3 : before a b = true → before b c = true → before a c = true := before_trans
  have hs := before_self a
  have hlt : HT.lexLt [(rk a).fst, (rk a).snd.fst, (rk a).snd.snd] [(rk b).fst, (rk b).snd.fst, (rk b).snd.snd] = before a b := rfl
  unfold bodyL
  by_cases hab : a = b
  · subst hab
    rw [hs] at al t3
    simp [e1, e2, e3, caa, ra, al, hs, shaped_int, eqv_int, rkL, shaped_bool, eqv_bool, hlt]
  · have hne : ¬ (a : Int) = (b : Int) := by omega
    have ho := before_other ha hb hab
    cases x : before a b <;> cases y : before b a <;> cases z : before b c <;> cases u : before a c <;> simp only [x, y, z, u] at * <;> first
      | (exfalso; simp at ho; done)
      | (exfalso; simp at t3; done)
      | simp [e1, e2, e3, cab, cba, caa, cbc, cac, ra, rb, al, hs, shaped_int, eqv_int, rkL, shaped_bool, eqv_bool, hlt, x, hne]
theorem loop_ok {ns : List Int} {s : O} : ∀ (ds : List D) {o : O} {x2 x3 x4 x5 : Option O}, Rw ns o → ∃ o' y2 y3 y4 y5, forLoop (tName 2) bodyL ds [some s, some o, x2, x3, x4, x5] = some (.nx [some s, some o', y2, y3, y4, y5])
  | [], o, x2, x3, x4, x5, h => ⟨o, x2, x3, x4, x5, rfl⟩
  | d :: ds, o, x2, x3, x4, x5, h => by
    obtain ⟨o1, y3, y4, y5, e, h1⟩ := body_ok (s := s) (x2 := some (.d d)) (x3 := x3) (x4 := x4) (x5 := x5) h
    obtain ⟨o', z2, z3, z4, z5, e2⟩ := loop_ok (s := s) ds (x2 := some (.d d)) (x3 := y3) (x4 := y4) (x5 := y5) h1
    refine ⟨o', z2, z3, z4, z5, ?_⟩
    unfold forLoop
    simp [e, e2]
theorem law_true (ns : List Int) (_ : ns.length ≤ 63) : ∃ fs, F_law [.d (.list (ns.map .int))] = some (.d (.bool true), fs) := by
  obtain ⟨o', y2, y3, y4, y5, e⟩ := loop_ok (ns := ns) (s := .d (.list (ns.map .int))) (rangeD 0 6) (o := .l [.list (ns.map .int), .int 0, .int 3356, .int 0]) (x2 := none) (x3 := none) (x4 := none) (x5 := none) ⟨0, 3356, 0, by omega, rfl⟩
  refine ⟨[some (.d (.list (ns.map .int)))], ?_⟩
  unfold F_law runDef B_law
  unfold bodyL at e
  simp [e]
end Sh.K56

open PySem PySem.W PyProof.Rows
set_option maxHeartbeats 0 in
theorem PySem.Challenge.cw_shiftcore_k56_whole_order_of_periods_holds : PySem.Challenge.rw_shiftcore_k56_whole_order_of_periods.Holds := by
  w_on; o_law; k_head; (case hw => w_witness2)
  k_fill
  refine L2.walk_of (l := PySem.Challenge.rw_shiftcore_k56_whole_order_of_periods) (n := 63) (k := 14) (x := "script") (CX := fun _ => L2.CX0) (sp := fun w => Sh.spD _ [] Sh.K56.F_law) rfl (by decide) rfl ⟨rfl, by decide, by decide⟩ (fun w h Y => PySem.W.kIn_of Y) ?F (fun w H a ns hl _ hS => Sh.law_sp (Sh.K56.law_true ns hl) hS) (fun _ _ _ _ _ h => h)
  case F =>
    intro w mg fa h KX G hmg
    refine' Sh.K56.all_mk KX G hmg ?a0 ?l0 ?c0 ?k0 ?a1 ?l1 ?c1 ?k1 ?a2 ?l2 ?c2 ?k2 ?a3 ?l3 ?c3 ?k3 ?a4 ?l4 ?c4 ?k4 ?a5 ?l5 ?c5 ?k5 ?a6 ?l6 ?c6 ?k6 ?a7 ?l7 ?c7 ?k7 ?a8 ?l8 ?c8 ?k8 ?a9 ?l9 ?c9 ?k9 ?z_bool ?z_int ?z_isinstance ?z_len ?z_list ?z_range ?z_str ?z_tuple ?y_MOST_NUMBER
    (case a0 => k_is); (case l0 => k_is); (case c0 => k_is); (case k0 => k_is); (case a1 => k_is); (case l1 => k_is); (case c1 => k_is); (case k1 => k_is); (case a2 => k_is); (case l2 => k_is); (case c2 => k_is); (case k2 => k_is); (case a3 => k_is); (case l3 => k_is); (case c3 => k_is); (case k3 => k_is); (case a4 => k_is); (case l4 => k_is); (case c4 => k_is); (case k4 => k_is); (case a5 => k_is); (case l5 => k_is); (case c5 => k_is); (case k5 => k_is); (case a6 => k_is); (case l6 => k_is); (case c6 => k_is); (case k6 => k_is); (case a7 => k_is); (case l7 => k_is); (case c7 => k_is); (case k7 => k_is); (case a8 => k_is); (case l8 => k_is); (case c8 => k_is); (case k8 => k_is); (case a9 => k_is); (case l9 => k_is); (case c9 => k_is); (case k9 => k_is); (case z_bool => k_is); (case z_int => k_is); (case z_isinstance => k_is); (case z_len => k_is); (case z_list => k_is); (case z_range => k_is); (case z_str => k_is); (case z_tuple => k_is); (case y_MOST_NUMBER => k_is)
