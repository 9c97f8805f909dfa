import PyProof.Rows.All
import Wide.All
import OpenK.AllK
import Wide.FinOn
import PySem.PyData
import PyProof.P3Statements
import PyProof.EqLayable
import HandS.ForMost
import HandS.Wide
import HandS.IsInst
import HandS.Conv
import HandS.RevRange
import HandS.Style
import HandS.TupAny
import HandS.SortInts
import HandS.SortRule
import HandS.Defaults
import HandS.HeadHook4
import HandS.HeadEnd
import HandS.Head0
import HandS.Head1
import HandS.Head2
import KE.DatumOrd
import HandS.NoneIn
import HandS.ExcIs
import HandS.ExcValue
import HandS.HeadWalk
import KE.KDictDisplayH
import HandS.Dict
import PyProof.Rows.BitMore
import PySem.Challenge.RW_bendline_k14_strolls
set_option linter.all false
/-! Data to data: what a def of the program does, as plain functions on PyData. -/
namespace BL
open PySem

abbrev Dt := PyData
inductive Sl where
  | d (x : Dt)
  | own (xs : List Dt)
  | scr (xs : List Dt)
  | exc (c : String)
  | obj (w k : Bool) (a : Nat) (xs : List Dt)
  | bxs (k : Bool) (xss : List (List Dt))
abbrev Env := List (Option Sl)
inductive SOut where
  | nx (r : Env) | rt (x : Dt) | bk (r : Env) | ct (r : Env) | exc (c : String) | rl (xs : List Dt)
abbrev FE := Env → Option Dt
abbrev FA := Env → Option (List Dt)
abbrev FS := Env → Option SOut

/-! ### values -/
def flatD : Dt → Bool
  | .none => true | .bool _ => true | .int _ => true | .str _ => true | _ => false
def frz1 : Option Sl → Option Sl
  | some (.own xs) => some (.d (.list xs))
  | some (.obj _ _ _ _) => none
  | some (.bxs true _) => none
  | some (.bxs false xss) => some (.d (.list (xss.map .list)))
  | x => x
def freeze (r : Env) : Env := r.map frz1

/-! ### operators -/
def okMul (i j : Int) : Bool := decide (i.natAbs < 2 ^ 250) && decide (j.natAbs < 2 ^ 250)
def okDiv (j : Int) : Bool := decide (0 < j) && decide (j < 2 ^ 250)
def okShl (i j : Int) : Bool := decide (0 ≤ j) && decide (j ≤ 1000) && decide (i.natAbs < 2 ^ 64)
def sizeOk (n : Nat) : Bool := decide (n ≤ 1000000)
def oAdd : Dt → Dt → Option Dt
  | .int i, .int j => some (.int (i + j))
  | .list xs, .list ys => if sizeOk (xs.length + ys.length) then some (.list (xs ++ ys)) else none
  | .tuple xs, .tuple ys => if sizeOk (xs.length + ys.length) && !xs.isEmpty then some (.tuple (xs ++ ys)) else none
  | _, _ => none
def oSub : Dt → Dt → Option Dt
  | .int i, .int j => some (.int (i - j))
  | _, _ => none
def oMul : Dt → Dt → Option Dt
  | .int i, .int j => if okMul i j then some (.int (i * j)) else none
  | _, _ => none
def oDiv : Dt → Dt → Option Dt
  | .int i, .int j => if okDiv j then some (.int (i / j)) else none
  | _, _ => none
def oMod : Dt → Dt → Option Dt
  | .int i, .int j => if decide (0 < j) then some (.int (i % j)) else none
  | _, _ => none
def oPow : Dt → Dt → Option Dt
  | .int i, .int j => if okShl i j then some (.int (i ^ j.toNat)) else none
  | _, _ => none
def oShl : Dt → Dt → Option Dt
  | .int i, .int j => if okShl i j then some (.int (i * 2 ^ j.toNat)) else none
  | _, _ => none
def oShr : Dt → Dt → Option Dt
  | .int i, .int j => if decide (0 ≤ j) then some (.int (i / 2 ^ j.toNat)) else none
  | _, _ => none
def oAnd : Dt → Dt → Option Dt
  | .int i, .int j => some (.int (Builtin.bitAnd i j))
  | _, _ => none
def oLt : Dt → Dt → Option Dt
  | .int i, .int j => some (.bool (decide (i < j)))
  | _, _ => none
def oLe : Dt → Dt → Option Dt
  | .int i, .int j => some (.bool (decide (i ≤ j)))
  | _, _ => none
def oGt : Dt → Dt → Option Dt
  | .int i, .int j => some (.bool (decide (j < i)))
  | _, _ => none
def oGe : Dt → Dt → Option Dt
  | .int i, .int j => some (.bool (decide (j ≤ i)))
  | _, _ => none
def oEq (d e : Dt) : Option Dt := if SeqAt.shaped d && SeqAt.shaped e then some (.bool (PyData.eqv d e)) else none
def oNe (d e : Dt) : Option Dt := if SeqAt.shaped d && SeqAt.shaped e then some (.bool (!PyData.eqv d e)) else none
def inD (d : Dt) (ys : List Dt) : Bool := ys.any fun y => PyData.eqv y d
def oIn : Dt → Dt → Option Dt
  | d, .list ys => if flatD d && ys.all flatD then some (.bool (inD d ys)) else none
  | d, .tuple ys => if flatD d && ys.all flatD then some (.bool (inD d ys)) else none
  | _, _ => none
def oNotIn : Dt → Dt → Option Dt
  | d, .list ys => if flatD d && ys.all flatD then some (.bool (!inD d ys)) else none
  | d, .tuple ys => if flatD d && ys.all flatD then some (.bool (!inD d ys)) else none
  | _, _ => none
def atD (xs : List Dt) (i : Int) : Option Dt := if 0 ≤ i then xs[i.toNat]? else if -(xs.length : Int) ≤ i then xs[(i + xs.length).toNat]? else none
def oIx : Dt → Dt → Option Dt
  | .list xs, .int i => atD xs i
  | .tuple xs, .int i => atD xs i
  | _, _ => none
def oNeg : Dt → Option Dt
  | .int i => some (.int (-i))
  | _ => none
def oAbs : Dt → Option Dt
  | .int i => some (.int (if i < 0 then -i else i))
  | _ => none
def oLen : Dt → Option Dt
  | .list xs => some (.int xs.length)
  | .tuple xs => some (.int xs.length)
  | _ => none
def oInt : Dt → Option Dt
  | .int i => some (.int i)
  | .bool b => some (.int (if b then 1 else 0))
  | _ => none
def oMin2 : Dt → Dt → Option Dt
  | .int i, .int j => some (.int (if j < i then j else i))
  | _, _ => none
def oMax2 : Dt → Dt → Option Dt
  | .int i, .int j => some (.int (if j > i then j else i))
  | _, _ => none
def kindD : Dt → String
  | .none => "NoneType" | .bool _ => "bool" | .int _ => "int" | .str _ => "str" | .list _ => "list" | .tuple _ => "tuple" | .dict _ => "dict"
/-- isinstance against a built-in kind -/
def isD (k : String) (d : Dt) : Bool := kindD d == k || (k == "int" && kindD d == "bool")
def oIs (k : String) (d : Dt) : Option Dt := some (.bool (isD k d))
/-- a slice from a written begin to a written end, none: left out -/
def sIx (n d : Nat) : Option Int → Nat
  | none => d
  | some i => if i < 0 then (i + (n : Int)).toNat else min i.toNat n
def cutD (xs : List Dt) (lo hi : Option Int) : List Dt := (xs.drop (sIx xs.length 0 lo)).take (sIx xs.length xs.length hi - sIx xs.length 0 lo)
def oSlice (lo hi : Option Int) : Dt → Option Dt
  | .list xs => some (.list (cutD xs lo hi))
  | .tuple xs => some (.tuple (cutD xs lo hi))
  | _ => none
def c1 (o : Dt → Option Dt) : List Dt → Option Dt
  | [d] => o d
  | _ => none
def c2 (o : Dt → Dt → Option Dt) : List Dt → Option Dt
  | [d, e] => o d e
  | _ => none
/-- list(x), of a list or a tuple: a new list -/
def oList : Dt → Option Dt
  | .list xs => some (.list xs)
  | .tuple xs => some (.list xs)
  | _ => none
def oTuple : Dt → Option Dt
  | .list xs => some (.tuple xs)
  | .tuple xs => some (.tuple xs)
  | _ => none
/-- min, max of a pair -/
def oMin1 : Dt → Option Dt
  | .tuple [.int i, .int j] => some (.int (if j < i then j else i))
  | _ => none
def oMax1 : Dt → Option Dt
  | .tuple [.int i, .int j] => some (.int (if j > i then j else i))
  | _ => none
def intsOf : List Dt → Option (List Int)
  | [] => some []
  | .int i :: xs => (intsOf xs).map (i :: ·)
  | _ :: _ => none
def pairsOf : List Dt → Option (List (Int × Int))
  | [] => some []
  | .tuple [.int i, .int j] :: xs => (pairsOf xs).map ((i, j) :: ·)
  | _ :: _ => none
def oSum : Dt → Option Dt
  | .list xs => (intsOf xs).map fun ns => .int ns.sum
  | _ => none
def leP (a b : Int × Int) : Bool := decide (a.1 < b.1) || (decide (a.1 = b.1) && decide (a.2 ≤ b.2))
def oSorted : Dt → Option Dt
  | .list xs => match intsOf xs with
    | some ns => some (.list ((ns.mergeSort fun a b => decide (a ≤ b)).map PyData.int))
    | none => (pairsOf xs).map fun ps => .list ((ps.mergeSort leP).map fun p => .tuple [.int p.1, .int p.2])
  | _ => none
def toB : Dt → Option Bool
  | .bool b => some b
  | _ => none

/-! ### expressions -/
@[simp] def eVar (i : Nat) (r : Env) : Option Dt := match r[i]? with
  | some (some (.d x)) => some x
  | _ => none
@[simp] def eC (d : Dt) (_ : Env) : Option Dt := some d
@[simp] def eOp (op : Dt → Dt → Option Dt) (a b : FE) (r : Env) : Option Dt := (a r).bind fun x => (b r).bind fun y => op x y
@[simp] def eUn (op : Dt → Option Dt) (a : FE) (r : Env) : Option Dt := (a r).bind op
@[simp] def aNil (_ : Env) : Option (List Dt) := some []
@[simp] def aCons (a : FE) (t : FA) (r : Env) : Option (List Dt) := (a r).bind fun x => (t r).bind fun xs => some (x :: xs)
@[simp] def eTup (t : FA) (r : Env) : Option Dt := (t r).bind fun xs => if sizeOk xs.length then some (.tuple xs) else none
@[simp] def eLst (t : FA) (r : Env) : Option Dt := (t r).bind fun xs => if sizeOk xs.length then some (.list xs) else none
def oRep (xs : List Dt) : Dt → Option Dt
  | .int j => if decide (0 ≤ j) && decide (j ≤ 1000) && decide (xs.length ≤ 1000) then some (.list (List.replicate j.toNat xs).flatten) else none
  | _ => none
/-- [..] * n -/
@[simp] def eRep (t : FA) (n : FE) (r : Env) : Option Dt := (t r).bind fun xs => (n r).bind fun y => oRep xs y
@[simp] def eCall (g : List Dt → Option Dt) (t : FA) (r : Env) : Option Dt := (t r).bind g
@[simp] def eChain (op op' : Dt → Dt → Option Dt) (a b c : FE) (r : Env) : Option Dt := (a r).bind fun x => (b r).bind fun y => (op x y).bind fun z => (toB z).bind fun k =>
  if k = true then (c r).bind fun w => op' y w else some (.bool false)
@[simp] def eChain3 (o1 o2 o3 : Dt → Dt → Option Dt) (a b c d : FE) (r : Env) : Option Dt := (a r).bind fun x => (b r).bind fun y => (o1 x y).bind fun z => (toB z).bind fun k =>
  if k = true then (c r).bind fun w => (o2 y w).bind fun z2 => (toB z2).bind fun k2 => if k2 = true then (d r).bind fun v => o3 w v else some (.bool false) else some (.bool false)
@[simp] def eAnd (a b : FE) (r : Env) : Option Dt := (a r).bind fun x => (toB x).bind fun k => if k = true then b r else some (.bool false)
@[simp] def eOr (a b : FE) (r : Env) : Option Dt := (a r).bind fun x => (toB x).bind fun k => if k = true then some (.bool true) else b r
@[simp] def eNot (a : FE) (r : Env) : Option Dt := (a r).bind fun x => (toB x).bind fun k => some (.bool (!k))
@[simp] def eIf (t a b : FE) (r : Env) : Option Dt := (t r).bind fun x => (toB x).bind fun k => if k = true then a r else b r
/-- over a frozen state, a flat answer -/
@[simp] def eFz (a : FE) (r : Env) : Option Dt := (a (freeze r)).bind fun x => if flatD x then some x else none
/-- an item of an own list -/
@[simp] def eOwnIx (i : Nat) (a : FE) (r : Env) : Option Dt := match r[i]? with
  | some (some (.own xs)) => (a r).bind fun y => oIx (.list xs) y
  | _ => none

/-- a slice of the script -/
@[simp] def eScr (lo hi : Option Int) (i : Nat) (r : Env) : Option Dt := match r[i]? with
  | some (some (.scr xs)) => some (.list (cutD xs lo hi))
  | _ => none
/-- {'a': e, ..}[k] -/
def eDix (ks : List Str) (t : FA) (k : FE) (r : Env) : Option Dt := (t r).bind fun xs => (k r).bind fun y => match y with
  | .str z => (ks.zip xs).lookup z
  | _ => none

/-! ### what is walked -/
def iList (a : FE) (r : Env) : Option (List Dt) := (a r).bind fun x => match x with
  | .list xs => some xs
  | _ => none
def iTup (a : FE) (r : Env) : Option (List Dt) := (a r).bind fun x => match x with
  | .tuple xs => some xs
  | _ => none
def okRng (i : Int) : Bool := Nat.ble i.natAbs 1000000
def rngD (lo : Int) (n : Nat) : List Dt := (List.range n).map fun (k : Nat) => .int (lo + k)
def rngU (lo : Int) (n : Nat) : List Dt := (List.range n).map fun (k : Nat) => .int (lo + (k : Int) * (-1))
def iRng1 (a : FE) (r : Env) : Option (List Dt) := (a r).bind fun x => match x with
  | .int j => if okRng j then some (rngD 0 j.toNat) else none
  | _ => none
def iRng2 (a b : FE) (r : Env) : Option (List Dt) := (a r).bind fun x => (b r).bind fun y => match x, y with
  | .int i, .int j => if okRng i && okRng j then some (rngD i (j - i).toNat) else none
  | _, _ => none
def okRng3 (i j : Int) : Bool := okRng i && okRng j
/-- range(i, j, -1) -/
def iRngDn (a b : FE) (r : Env) : Option (List Dt) := (a r).bind fun x => (b r).bind fun y => match x, y with
  | .int i, .int j => if okRng3 i j then some (rngU i (i - j).toNat) else none
  | _, _ => none
/-- reversed(range(i)), reversed(range(i, j)) -/
def iRev1 (a : FE) (r : Env) : Option (List Dt) := (a r).bind fun x => match x with
  | .int j => if okRng j then some (rngU (0 + (((j - 0).toNat : Nat) : Int) - 1) (j - 0).toNat) else none
  | _ => none
def iRev2 (a b : FE) (r : Env) : Option (List Dt) := (a r).bind fun x => (b r).bind fun y => match x, y with
  | .int i, .int j => if okRng i && okRng j then some (rngU (i + (((j - i).toNat : Nat) : Int) - 1) (j - i).toNat) else none
  | _, _ => none
def enumD : Nat → List Dt → List Dt
  | _, [] => []
  | n, x :: xs => .tuple [.int n, x] :: enumD (n + 1) xs
def iEnum (a : FE) (r : Env) : Option (List Dt) := (a r).bind fun x => match x with
  | .list xs => some (enumD 0 xs)
  | _ => none
def zipD : List Dt → List Dt → List Dt
  | x :: xs, y :: ys => .tuple [x, y] :: zipD xs ys
  | _, _ => []
def iZip (a b : FE) (r : Env) : Option (List Dt) := (a r).bind fun x => (b r).bind fun y => match x, y with
  | .list xs, .list ys => some (zipD xs ys)
  | _, _ => none

/-! ### comprehensions -/
abbrev TGD := Dt → Env → Option Env
@[simp] def gNm (i : Nat) (x : Dt) (r : Env) : Option Env := some (r.set i (some (.d x)))
@[simp] def gTp (is : List Nat) (x : Dt) (r : Env) : Option Env := match x with
  | .tuple xs => if xs.length = is.length then some ((is.zip xs).foldl (fun r p => r.set p.1 (some (.d p.2))) r) else none
  | _ => none
/-- i, j = a list -/
@[simp] def gTl (is : List Nat) (x : Dt) (r : Env) : Option Env := match x with
  | .list xs => if xs.length = is.length then some ((is.zip xs).foldl (fun r p => r.set p.1 (some (.d p.2))) r) else none
  | _ => none
def wipeD (r : Env) : List Nat → Env
  | [] => r
  | v :: vs => (wipeD r vs).set v none
def lcGo (g : TGD) (t e : FE) (r : Env) : List Dt → Option (List Dt)
  | [] => some []
  | x :: xs => (g x r).bind fun r1 => (t r1).bind fun y => (toB y).bind fun k =>
    if k = true then (e r1).bind fun z => (lcGo g t e r xs).bind fun zs => some (z :: zs) else lcGo g t e r xs
@[simp] def eYes (_ : Env) : Option Dt := some (.bool true)
@[simp] def eLc (i : FA) (g : TGD) (t e : FE) (vs : List Nat) (r : Env) : Option Dt := (i r).bind fun xs => if sizeOk xs.length then (lcGo g t e (wipeD r vs) xs).bind fun ys => some (.list ys) else none

/-! ### statements -/
@[simp] def sNext (r : Env) : Option SOut := some (.nx r)
@[simp] def sSeq (a b : FS) (r : Env) : Option SOut := (a r).bind fun o => match o with
  | .nx r1 => b r1
  | o => some o
@[simp] def sAsg (g : TGD) (e : FE) (r : Env) : Option SOut := (e r).bind fun x => (g x r).bind fun r1 => some (.nx r1)
/-- i, j = a, b -/
@[simp] def sPar (is : List Nat) (t : FA) (r : Env) : Option SOut := (t r).bind fun xs => if xs.length = is.length then some (.nx ((is.zip xs).foldl (fun r p => r.set p.1 (some (.d p.2))) r)) else none
@[simp] def sIf (t : FE) (a b : FS) (r : Env) : Option SOut := (t r).bind fun x => (toB x).bind fun k => if k = true then a r else b r
@[simp] def sRet (e : FE) (r : Env) : Option SOut := (e r).bind fun x => some (.rt x)
/-- return of an own list -/
@[simp] def sRetO (i : Nat) (r : Env) : Option SOut := match r[i]? with
  | some (some (.own xs)) => some (.rl xs)
  | _ => none
@[simp] def sDrop (e : FE) (r : Env) : Option SOut := (e r).bind fun _ => some (.nx r)
@[simp] def sBreak (r : Env) : Option SOut := some (.bk r)
@[simp] def sCont (r : Env) : Option SOut := some (.ct r)
@[simp] def sNever (_ : Env) : Option SOut := none
@[simp] def sRaise (c : String) (_ : Env) : Option SOut := some (.exc c)
def forGo (g : TGD) (b : FS) : List Dt → FS
  | [], r => some (.nx r)
  | x :: xs, r => (g x r).bind fun r1 => (b r1).bind fun o => match o with
    | .nx r2 => forGo g b xs r2
    | .ct r2 => forGo g b xs r2
    | .bk r2 => some (.nx r2)
    | .rt d => some (.rt d)
    | .exc c => some (.exc c)
    | .rl d => some (.rl d)
@[simp] def sFor (i : FA) (g : TGD) (b : FS) (r : Env) : Option SOut := (i r).bind fun xs => forGo g b xs r
def whileGo (t : FE) (b : FS) : Nat → FS
  | 0, _ => none
  | n + 1, r => (t r).bind fun x => (toB x).bind fun k => if k = true then (b r).bind fun o => (match o with
      | .nx r2 => whileGo t b n r2
      | .ct r2 => whileGo t b n r2
      | .bk r2 => some (.nx r2)
      | .rt d => some (.rt d)
      | .exc c => some (.exc c)
      | .rl d => some (.rl d)) else some (.nx r)
open Classical in
noncomputable def sWhile (t : FE) (b : FS) (r : Env) : Option SOut := if h : ∃ n o, whileGo t b n r = some o then some (Classical.choose (Classical.choose_spec h)) else none
/-! own lists -/
@[simp] def sOwn (i : Nat) (t : FA) (r : Env) : Option SOut := (t r).bind fun xs => if sizeOk xs.length then some (.nx (r.set i (some (.own xs)))) else none
@[simp] def sOwnCall (i : Nat) (g : List Dt → Option (List Dt)) (t : FA) (r : Env) : Option SOut := (t r).bind fun xs => (g xs).bind fun ys => some (.nx (r.set i (some (.own ys))))
/-- an expression that changes own lists -/
abbrev FM := Env → Option (Dt × Env)
@[simp] def mApp (i : Nat) (e : FE) (r : Env) : Option (Dt × Env) := (e r).bind fun x => match r[i]? with
  | some (some (.own xs)) => if sizeOk xs.length then some (.none, r.set i (some (.own (xs ++ [x])))) else none
  | _ => none
@[simp] def mPop (i : Nat) (r : Env) : Option (Dt × Env) := match r[i]? with
  | some (some (.own xs)) => match xs.getLast? with
    | some x => some (x, r.set i (some (.own xs.dropLast)))
    | none => none
  | _ => none
/-- x[-1] = e -/
@[simp] def sPutLast (i : Nat) (e : FE) (r : Env) : Option SOut := (e r).bind fun x => match r[i]? with
  | some (some (.own xs)) => if xs.isEmpty then none else some (.nx (r.set i (some (.own (xs.dropLast ++ [x])))))
  | _ => none
/-- f(x, ..), f changes x -/
@[simp] def mCh (i : Nat) (g : List Dt → List Dt → Option (List Dt)) (t : FA) (r : Env) : Option (Dt × Env) := (t r).bind fun ys => match r[i]? with
  | some (some (.own xs)) => (g xs ys).bind fun zs => some (.none, r.set i (some (.own zs)))
  | _ => none
/-- if test: first = found.pop()[0]; found.append((first, last)) -/
def gPut (tT : FE) (xs : List Dt) (ds : List Dt) : Option (List Dt) := match ds with
  | [a, b] => (tT [some (.d (.list xs)), some (.d a), some (.d b)]).bind fun z => (toB z).bind fun k =>
    if k = true then (match xs.getLast? with
      | some y => (oIx y (.int 0)).bind fun a' => if sizeOk xs.length then some (xs.dropLast ++ [.tuple [a', b]]) else none
      | none => none)
    else if sizeOk xs.length then some (xs ++ [.tuple [a, b]]) else none
  | _ => none
@[simp] def sDropM (m : FM) (r : Env) : Option SOut := (m r).bind fun x => some (.nx x.2)
@[simp] def sAsgM (g : TGD) (m : FM) (r : Env) : Option SOut := (m r).bind fun x => (g x.1 x.2).bind fun r1 => some (.nx r1)
/-- the law's own start: the script -/
def startL (N : Nat) (xs : List Dt) : Env := some (.scr xs) :: List.replicate (N - 1) none
def runL (F : FS) (N : Nat) (xs : List Dt) : Option Dt := (F (startL N xs)).bind fun o => match o with
  | .rt d => some d
  | _ => none
/-! a def's answer -/
def startD (N : Nat) (ds : List Dt) : Env := ds.map (fun d => some (.d d)) ++ List.replicate (N - ds.length) none
def runF (F : FS) (N p : Nat) (ds : List Dt) : Option Dt := if ds.length = p then (F (startD N ds)).bind fun o => match o with
  | .rt d => some d
  | .nx _ => some .none
  | .rl xs => some (.list xs)
  | _ => none else none
/-- a new list -/
def runO (F : FS) (N p : Nat) (ds : List Dt) : Option (List Dt) := if ds.length = p then (F (startD N ds)).bind fun o => match o with
  | .rl xs => some xs
  | _ => none else none
@[simp] def outD : SOut → Option Dt
  | .rt d => some d
  | .nx _ => some .none
  | .rl xs => some (.list xs)
  | _ => none
@[simp] def outO : SOut → Option (List Dt)
  | .rl xs => some xs
  | _ => none
@[simp] def outL : SOut → Option Dt
  | .rt d => some d
  | _ => none
end BL

set_option Elab.async false
set_option linter.all false
set_option maxRecDepth 100000
/-! The calculus: an expression of the text computes a function on data (tD), a statement one on environments (tsD). -/
namespace BL
open PySem PySem.Spec PyProof.Rows L2

/-! ### data in the heap -/
mutual
inductive Rp (K : PySem.W.Frag) (H : Hp) : V → Dt → Prop
  | non : Rp K H .non .none
  | bl (b : Bool) : Rp K H (.bl b) (.bool b)
  | int (i : Int) : Rp K H (.int i) (.int i)
  | str (x : Str) : Rp K H (.str x) (.str x)
  | lst {a : Addr} {xs : List V} {ds : List Dt} : Rd H a (.lst xs) → RpAll K H xs ds → Rp K H (.ref a) (.list ds)
  | tup {a : Addr} {xs : List V} {ds : List Dt} : SqT K H a xs → RpAll K H xs ds → Rp K H (.ref a) (.tuple ds)
  | dk0 {a : Addr} : H a = some (.dK []) → Rp K H (.ref a) (.dict [])
inductive RpAll (K : PySem.W.Frag) (H : Hp) : List V → List Dt → Prop
  | nil : RpAll K H [] []
  | cons {v : V} {vs : List V} {d : Dt} {ds : List Dt} : Rp K H v d → RpAll K H vs ds → RpAll K H (v :: vs) (d :: ds)
end

theorem same_rd {H H' : Hp} {a : Addr} {u : HO} (e : Same H H') (h : Rd H a u) : Rd H' a u := by
  rcases h with h | ⟨o, h⟩
  · exact .inl (e a _ h)
  · exact .inr ⟨o, e a _ h⟩
theorem same_l {K : PySem.W.Frag} {H H' : Hp} {a : Addr} {xs : List V} (e : Same H H') (h : SqL K H a xs) : SqL K H' a xs := by
  rcases h with h | h
  · exact .inl (same_rd e h)
  · exact .inr h
theorem same_t {K : PySem.W.Frag} {H H' : Hp} {a : Addr} {xs : List V} (e : Same H H') (h : SqT K H a xs) : SqT K H' a xs := by
  rcases h with h | h
  · exact .inl (same_rd e h)
  · exact .inr h

section
variable {K : PySem.W.Frag} {H H' : Hp}
mutual
theorem Rp.mono (e : Same H H') : ∀ (d : Dt) (v : V), Rp K H v d → Rp K H' v d
  | .none, _, h => by cases h; exact .non
  | .bool b, _, h => by cases h; exact .bl b
  | .int i, _, h => by cases h; exact .int i
  | .str x, _, h => by cases h; exact .str x
  | .list ds, _, h => by
    cases h with
    | lst hs ha => exact .lst (same_rd e hs) (RpAll.mono e ds _ ha)
  | .tuple ds, _, h => by
    cases h with
    | tup hs ha => exact .tup (same_t e hs) (RpAll.mono e ds _ ha)
  | .dict _, _, h => by
    cases h with
    | dk0 hs => exact .dk0 (e _ _ hs)
theorem RpAll.mono (e : Same H H') : ∀ (ds : List Dt) (vs : List V), RpAll K H vs ds → RpAll K H' vs ds
  | [], _, h => by cases h; exact .nil
  | d :: ds, _, h => by
    cases h with
    | cons h1 h2 => exact .cons (Rp.mono e d _ h1) (RpAll.mono e ds _ h2)
end
theorem Rp.mn {v : V} {d : Dt} (h : Rp K H v d) (e : Same H H') : Rp K H' v d := Rp.mono e d v h
theorem RpAll.mn {vs : List V} {ds : List Dt} (h : RpAll K H vs ds) (e : Same H H') : RpAll K H' vs ds := RpAll.mono e ds vs h
theorem RpAll.length : ∀ {vs : List V} {ds : List Dt}, RpAll K H vs ds → vs.length = ds.length
  | _, _, .nil => rfl
  | _, _, .cons _ t => congrArg (· + 1) (RpAll.length t)
theorem RpAll.get : ∀ {vs : List V} {ds : List Dt} {i : Nat} {d : Dt}, RpAll K H vs ds → ds[i]? = some d → ∃ v, vs[i]? = some v ∧ Rp K H v d
  | _, _, _, _, .nil, e => by simp at e
  | _, _, 0, _, .cons r _, e => by simp at e; subst e; exact ⟨_, rfl, r⟩
  | _, _, i + 1, d, .cons _ t, e => by
    obtain ⟨v, h1, h2⟩ := RpAll.get (i := i) (d := d) t (by simpa using e)
    exact ⟨v, by simpa using h1, h2⟩
theorem RpAll.getV : ∀ {vs : List V} {ds : List Dt} {i : Nat} {v : V}, RpAll K H vs ds → vs[i]? = some v → ∃ d, ds[i]? = some d ∧ Rp K H v d
  | _, _, _, _, .nil, e => by simp at e
  | _, _, 0, _, .cons r _, e => by simp at e; subst e; exact ⟨_, rfl, r⟩
  | _, _, i + 1, d, .cons _ t, e => by
    obtain ⟨v, h1, h2⟩ := RpAll.getV (i := i) (v := d) t (by simpa using e)
    exact ⟨v, by simpa using h1, h2⟩
theorem RpAll.append : ∀ {xs ys : List V} {us ws : List Dt}, RpAll K H xs us → RpAll K H ys ws → RpAll K H (xs ++ ys) (us ++ ws)
  | _, _, _, _, .nil, s => s
  | _, _, _, _, .cons r t, s => .cons r (RpAll.append t s)
theorem RpAll.take : ∀ {xs : List V} {us : List Dt} (n : Nat), RpAll K H xs us → RpAll K H (xs.take n) (us.take n)
  | _, _, 0, _ => .nil
  | _, _, _ + 1, .nil => .nil
  | _, _, n + 1, .cons r t => .cons r (RpAll.take n t)
theorem RpAll.drop : ∀ {xs : List V} {us : List Dt} (n : Nat), RpAll K H xs us → RpAll K H (xs.drop n) (us.drop n)
  | _, _, 0, r => r
  | _, _, _ + 1, .nil => .nil
  | _, _, n + 1, .cons _ t => RpAll.drop n t
theorem RpAll.rep (n : Nat) {xs : List V} {us : List Dt} (h : RpAll K H xs us) : RpAll K H (List.replicate n xs).flatten (List.replicate n us).flatten := by
  induction n with
  | zero => exact .nil
  | succ n ih => rw [List.replicate_succ, List.replicate_succ, List.flatten_cons, List.flatten_cons]; exact h.append ih
theorem RpAll.ints : ∀ (ns : List Int), RpAll K H (ns.map V.int) (ns.map PyData.int)
  | [] => .nil
  | n :: ns => .cons (.int n) (RpAll.ints ns)
theorem RpAll.intsV : ∀ (ns : List Int) (vs : List V), RpAll K H vs (ns.map PyData.int) → vs = ns.map V.int
  | [], _, h => by cases h; rfl
  | n :: ns, _, h => by
    cases h with
    | cons h1 h2 => cases h1; rw [RpAll.intsV ns _ h2]; rfl
mutual
theorem Rp.dp : ∀ (d : Dt) (v : V), Rp K H v d → d.canLay0 = true → Dp K H v d
  | .none, _, h, _ => by cases h; exact .non
  | .bool b, _, h, _ => by cases h; exact .bl b
  | .int i, _, h, _ => by cases h; exact .int i
  | .str x, _, h, _ => by cases h; exact .str x
  | .list ds, _, h, c => by
    cases h with
    | lst hs ha => exact .lst (.inl hs) (Rp.dpAll ds _ ha (by simpa only [PyData.canLay0] using c))
  | .tuple ds, _, h, c => by
    cases h with
    | tup hs ha => exact .tup hs (Rp.dpAll ds _ ha (by simpa only [PyData.canLay0] using c))
  | .dict _, _, _, c => by simp only [PyData.canLay0] at c; cases c
theorem Rp.dpAll : ∀ (ds : List Dt) (vs : List V), RpAll K H vs ds → PyData.canLayAll0 ds = true → DpAll K H vs ds
  | [], _, h, _ => by cases h; exact .nil
  | d :: ds, _, h, c => by
    have c' : d.canLay0 = true ∧ PyData.canLayAll0 ds = true := by simpa [PyData.canLayAll0] using c
    cases h with
    | cons h1 h2 => exact .cons (Rp.dp d _ h1 c'.1) (Rp.dpAll ds _ h2 c'.2)
end
end

/-! ### hidden addresses -/
def hide (O : List Addr) (H : Hp) : Hp := fun b => if b ∈ O then none else H b
theorem hide_sub {O : List Addr} {H : Hp} : Same (hide O H) H := fun b o e => by
  unfold hide at e
  split at e
  · cases e
  · exact e
theorem hide_in {O : List Addr} {H : Hp} {b : Addr} {o : HO} (n : b ∉ O) (e : H b = some o) : hide O H b = some o := by
  unfold hide; rw [if_neg n]; exact e
theorem hide_same {O : List Addr} {H H' : Hp} (e : Same H H') : Same (hide O H) (hide O H') := fun b o h => by
  unfold hide at h ⊢
  split at h
  · cases h
  · rename_i n
    rw [if_neg n]
    exact e b o h
theorem hide_less {O O' : List Addr} {H : Hp} (s : ∀ p ∈ O, p ∈ O') : Same (hide O' H) (hide O H) := fun b o h => by
  unfold hide at h ⊢
  split at h
  · cases h
  · rename_i n
    rw [if_neg fun z => n (s b z)]
    exact h
theorem hl {K : PySem.W.Frag} {O : List Addr} {H : Hp} {a : Addr} {xs : List V} (h : Rd (hide O H) a (.lst xs)) : SqL K H a xs := .inl (same_rd hide_sub h)
/-- what is hidden is tracked -/
def Trk (O : List Addr) (H : Hp) : Prop := ∀ p ∈ O, ∃ o, H p = some o
theorem Trk.mn {O : List Addr} {H H' : Hp} (t : Trk O H) (e : Same H H') : Trk O H' := fun p hp => let ⟨o, h⟩ := t p hp; ⟨o, e p o h⟩
theorem Trk.no {O : List Addr} {H : Hp} {p : Addr} (t : Trk O H) (h : H p = none) : p ∉ O := fun z => by
  obtain ⟨o, e⟩ := t p z
  rw [h] at e
  cases e
theorem same_new {H : Hp} {p : Addr} {o : HO} (h : H p = none) : Same H (upd H p o) := fun a u e => by
  rw [upd_ne (ne_of_none e h)]
  exact e
/-- the state has gone on: more is hidden (new things alone), what was not hidden stands, and what the caller hides -/
structure Later (O0 O : List Addr) (H : Hp) (O' : List Addr) (H' : Hp) : Prop where
  sub : ∀ p ∈ O, p ∈ O'
  new : ∀ p ∈ O', p ∈ O ∨ H p = none
  keep : ∀ b o, (b ∈ O → b ∈ O0) → H b = some o → H' b = some o
  trk : ∀ p, (∃ o, H p = some o) → ∃ o, H' p = some o
theorem Later.refl (O0 O : List Addr) (H : Hp) : Later O0 O H O H := ⟨fun _ h => h, fun _ h => .inl h, fun _ _ _ h => h, fun _ h => h⟩
theorem Later.same {O0 O : List Addr} {H H' : Hp} (e : Same H H') : Later O0 O H O H' := ⟨fun _ h => h, fun _ h => .inl h, fun _ _ _ h => e _ _ h, fun _ ⟨o, h⟩ => ⟨o, e _ _ h⟩⟩
theorem Later.weak {O0 O O' : List Addr} {H H' : Hp} (a : Later O0 O H O' H') : Later [] O H O' H' := ⟨a.sub, a.new, fun b o n h => a.keep b o (fun z => by cases n z) h, a.trk⟩
theorem Later.trans {O0 O O1 O2 : List Addr} {H H1 H2 : Hp} (a : Later O0 O H O1 H1) (b : Later O0 O1 H1 O2 H2) : Later O0 O H O2 H2 where
  sub := fun p h => b.sub p (a.sub p h)
  new := fun p h => by
    rcases b.new p h with z | z
    · exact a.new p z
    · refine .inr ?_
      cases e : H p with
      | none => rfl
      | some o =>
        obtain ⟨o', e'⟩ := a.trk p ⟨o, e⟩
        rw [z] at e'
        cases e'
  keep := fun c o n h => by
    refine b.keep c o (fun z => ?_) (a.keep c o n h)
    rcases a.new c z with y | y
    · exact n y
    · rw [y] at h; cases h
  trk := fun p h => b.trk p (a.trk p h)
theorem Later.hide {O0 O O' : List Addr} {H H' : Hp} (a : Later O0 O H O' H') : Same (hide O H) (hide O' H') := fun b o h => by
  unfold BL.hide at h ⊢
  split at h
  · cases h
  · rename_i n
    rw [if_neg fun z => ?_]
    · exact a.keep b o (fun z => (n z).elim) h
    · rcases a.new b z with y | y
      · exact n y
      · rw [y] at h; cases h

/-! ### the environment -/
/-- what is made and hidden is a list or a dict -/
def Pl : HO → Prop
  | .lst _ => True
  | .dK _ => True
  | .ins _ _ _ => True
  | _ => False
/-- an exception object of the class cls at a -/
def ExK (cls : Value) (d : Option Addr) (a : Addr) : HO := .ext fun h => ∃ (u : Obj) (vs : Array Value), h.get? a = some u ∧ Zc cls d u ∧ u.data = .fields vs
/-- the module's class of a name -/
def ClsK (K : PySem.W.Frag) (c : Str) (C : Addr) : Prop := PySem.W.nsIn K mainGlobals c = some (some (.ref C))
structure RepE0 (K : PySem.W.Frag) (O0 O : List Addr) (σ : L2.St) (H : Hp) (r : Env) : Prop where
  len : σ.length = r.length
  dat : ∀ (i : Nat) d, r[i]? = some (some (.d d)) → ∃ v, σ[i]? = some (some v) ∧ Rp K (hide O H) v d
  own : ∀ (i : Nat) xs, r[i]? = some (some (.own xs)) → ∃ p vs, σ[i]? = some (some (.ref p)) ∧ p ∈ O ∧ p ∉ O0 ∧ H p = some (.lst vs) ∧ RpAll K (hide O H) vs xs
  scr : ∀ (i : Nat) xs, r[i]? = some (some (.scr xs)) → ∃ a vs, σ[i]? = some (some (.ref a)) ∧ SqL K (hide O H) a vs ∧ RpAll K (hide O H) vs xs
  exc : ∀ (i : Nat) c, r[i]? = some (some (.exc c)) → ∃ a C, σ[i]? = some (some (.ref a)) ∧ ClsK K c C ∧ hide O H a = some (ExK (.ref C) none a)
  inj : ∀ (i j : Nat) p xs ys, i ≠ j → r[i]? = some (some (.own xs)) → r[j]? = some (some (.own ys)) → σ[i]? = some (some (.ref p)) → σ[j]? = some (some (.ref p)) → False
  trk : Trk O H
  sub : ∀ p ∈ O0, p ∈ O
  nt : ∀ p ∈ O, p ∈ O0 ∨ ∃ o, H p = some o ∧ Pl o

/-! boxes: objects of the program's one class, lists of objects, lists of lists -/
def StC (K : PySem.W.Frag) : Addr := He.ga K "Stroll"
def stN : List Str := ["size", "pose", "at"]
def HoIs (K : PySem.W.Frag) (H : Hp) (a : Addr) (k : Bool) (ws : List V) : Prop := match k with
  | true => ws.length = 3 ∧ ∃ dx, H a = some (.ins (StC K) dx (stN.zip ws))
  | false => H a = some (.lst ws)
def BoxAt (K : PySem.W.Frag) (O O0 : List Addr) (H : Hp) (a : Addr) (k : Bool) (xs : List Dt) : Prop := a ∈ O ∧ a ∉ O0 ∧ ∃ ws, HoIs K H a k ws ∧ RpAll K (hide O H) ws xs
def isBx : Sl → Bool
  | .obj _ _ _ _ => true
  | .bxs _ _ => true
  | _ => false
/-- what a slot holds of its own -/
def Fp (σ : L2.St) (H : Hp) (i : Nat) (s : Sl) (q : Addr) : Prop := match s with
  | .own _ => σ[i]? = some (some (.ref q))
  | .obj _ _ _ _ => σ[i]? = some (some (.ref q))
  | .bxs _ _ => σ[i]? = some (some (.ref q)) ∨ ∃ (p : Addr) (as : List Addr), σ[i]? = some (some (.ref p)) ∧ H p = some (.lst (as.map V.ref)) ∧ q ∈ as
  | _ => False
structure RepB (K : PySem.W.Frag) (O0 O : List Addr) (σ : L2.St) (H : Hp) (r : Env) : Prop where
  obj : ∀ (i : Nat) b k (p : Addr) xs, r[i]? = some (some (.obj b k p xs)) → ∃ ws, σ[i]? = some (some (.ref p)) ∧ p ∈ O ∧ (b = true → p ∉ O0) ∧ HoIs K H p k ws ∧ RpAll K (hide O H) ws xs
  bxs : ∀ (i : Nat) k xss, r[i]? = some (some (.bxs k xss)) → ∃ (p : Addr) (as : List Addr), σ[i]? = some (some (.ref p)) ∧ p ∈ O ∧ p ∉ O0 ∧ H p = some (.lst (as.map V.ref)) ∧ p ∉ as ∧ as.Nodup ∧ as.length = xss.length ∧ ∀ (j : Nat) (a : Addr) (xs : List Dt), as[j]? = some a → xss[j]? = some xs → BoxAt K O O0 H a k xs
  sep : ∀ (i j : Nat) s t q, i ≠ j → r[i]? = some (some s) → r[j]? = some (some t) → isBx s = true → Fp σ H i s q → Fp σ H j t q → False
structure RepE (K : PySem.W.Frag) (O0 O : List Addr) (σ : L2.St) (H : Hp) (r : Env) : Prop extends RepE0 K O0 O σ H r where
  bx : RepB K O0 O σ H r
section
variable {K : PySem.W.Frag} {O0 O O' : List Addr} {σ σ' : L2.St} {H H' : Hp} {r r' : Env}
def BxO (o : HO) : Prop := (∃ C dx fs, o = .ins C dx fs) ∨ ∃ xs, o = .lst xs
theorem refs_inj : ∀ {as bs : List Addr}, as.map V.ref = bs.map V.ref → as = bs
  | [], [], _ => rfl
  | [], _ :: _, h => by cases h
  | _ :: _, [], h => by cases h
  | a :: as, b :: bs, h => by
    rw [List.map_cons, List.map_cons] at h
    injection h with h1 h2
    injection h1 with h1
    rw [h1, refs_inj h2]
theorem RepB.none (h : ∀ (i : Nat) s, r[i]? = some (some s) → isBx s = false) : RepB K O0 O σ H r :=
  ⟨fun i b k p xs e => (by have z := h i _ e; cases z), fun i k xss e => (by have z := h i _ e; cases z), fun i j s t q _ e _ b => by rw [h i s e] at b; cases b⟩
theorem HoIs.bxo {a : Addr} {k : Bool} {ws : List V} (h : HoIs K H a k ws) : ∃ o, H a = some o ∧ BxO o := by
  cases k with
  | true => obtain ⟨_, dx, e⟩ := h; exact ⟨_, e, .inl ⟨_, _, _, rfl⟩⟩
  | false => exact ⟨_, h, .inr ⟨_, rfl⟩⟩
theorem HoIs.to {a : Addr} {k : Bool} {ws : List V} (h : HoIs K H a k ws) (e : ∀ o, H a = some o → BxO o → H' a = some o) : HoIs K H' a k ws := by
  cases k with
  | true => obtain ⟨l, dx, z⟩ := h; exact ⟨l, dx, e _ z (.inl ⟨_, _, _, rfl⟩)⟩
  | false => exact e _ h (.inr ⟨_, rfl⟩)
theorem Fp.mem (R : RepB K O0 O σ H r) {i : Nat} {s : Sl} (hi : r[i]? = some (some s)) (hb : isBx s = true) {q : Addr} (h : Fp σ H i s q) : q ∈ O ∧ ∃ o, H q = some o ∧ BxO o := by
  cases s with
  | obj b k p xs =>
    obtain ⟨ws, h1, h2, _, h3, _⟩ := R.obj i b k p xs hi
    have h' : σ[i]? = some (some (.ref q)) := h
    rw [h1] at h'
    cases h'
    exact ⟨h2, h3.bxo⟩
  | bxs k xss =>
    obtain ⟨p, as, h1, h2, _, h3, _, _, hl, h4⟩ := R.bxs i k xss hi
    rcases (show _ ∨ _ from h) with h' | ⟨p', as', h5, h6, h7⟩
    · rw [h1] at h'
      cases h'
      exact ⟨h2, _, h3, .inr ⟨_, rfl⟩⟩
    · rw [h1] at h5
      cases h5
      rw [h3] at h6
      have e := refs_inj (HO.lst.inj (Option.some.inj h6))
      subst e
      obtain ⟨j, hj, e⟩ := List.mem_iff_getElem.mp h7
      obtain ⟨z1, _, ws, z2, _⟩ := h4 j q (xss[j]'(by omega)) (by rw [List.getElem?_eq_getElem hj, e]) (List.getElem?_eq_getElem _)
      exact ⟨z1, z2.bxo⟩
  | _ => cases hb
/-- the boxes' things stay: each at a place of a slot's own -/
theorem RepB.conv (R : RepB K O0 O σ H r) (hO : ∀ p ∈ O, p ∈ O') (hk : ∀ (i : Nat) s p o, r[i]? = some (some s) → isBx s = true → Fp σ H i s p → H p = some o → BxO o → H' p = some o) (hr : ∀ ws xs, RpAll K (hide O H) ws xs → RpAll K (hide O' H') ws xs) : RepB K O0 O' σ H' r where
  obj := fun i b k p xs hi => by
    obtain ⟨ws, h1, h2, h3, h4, h5⟩ := R.obj i b k p xs hi
    exact ⟨ws, h1, hO p h2, h3, h4.to fun o => hk i _ p o hi rfl h1, hr _ _ h5⟩
  bxs := fun i k xss hi => by
    obtain ⟨p, as, h1, h2, h3, h4, h5, h6, h7, h8⟩ := R.bxs i k xss hi
    refine ⟨p, as, h1, hO p h2, h3, hk i _ p _ hi rfl (.inl h1) h4 (.inr ⟨_, rfl⟩), h5, h6, h7, fun j a xs ha hx => ?_⟩
    obtain ⟨z1, z2, ws, z3, z4⟩ := h8 j a xs ha hx
    exact ⟨hO a z1, z2, ws, z3.to fun o => hk i _ a o hi rfl (.inr ⟨p, as, h1, h4, List.mem_of_getElem? ha⟩), hr _ _ z4⟩
  sep := fun i j s t q ij hi hj hb f1 f2 => by
    have back : ∀ (i : Nat) s, r[i]? = some (some s) → Fp σ H' i s q → Fp σ H i s q := fun i s hi f => by
      cases s with
      | bxs k xss =>
        obtain ⟨p, as, h1, h2, h3, h4, _⟩ := R.bxs i k xss hi
        rcases (show _ ∨ _ from f) with f | ⟨p', as', g1, g2, g3⟩
        · exact .inl f
        · rw [h1] at g1
          cases g1
          rw [hk i _ p _ hi rfl (.inl h1) h4 (.inr ⟨_, rfl⟩)] at g2
          have e := refs_inj (HO.lst.inj (Option.some.inj g2))
          subst e
          exact .inr ⟨p, as, h1, h4, g3⟩
      | _ => exact f
    exact R.sep i j s t q ij hi hj hb (back i s hi f1) (back j t hj f2)
theorem RepB.mn (R : RepB K O0 O σ H r) (e : Same H H') : RepB K O0 O σ H' r := R.conv (fun _ h => h) (fun _ _ p o _ _ _ h _ => e p o h) fun ws xs h => h.mn (hide_same e)
/-- a slot that holds nothing of its own -/
def noFp : Option Sl → Bool
  | some (.own _) => false
  | some (.obj _ _ _ _) => false
  | some (.bxs _ _) => false
  | _ => true
theorem RepB.setN (R : RepB K O0 O σ H r) (i : Nat) (s : Option Sl) (v : Option V) (hs : noFp s = true) : RepB K O0 O (σ.set i v) H (r.set i s) := by
  have off : ∀ (j : Nat) t, (r.set i s)[j]? = some (some t) → noFp (some t) = false → i ≠ j ∧ r[j]? = some (some t) := fun j t h1 h2 => by
    by_cases e : i = j
    · subst e
      have hl : i < r.length := by
        have := (List.getElem?_eq_some_iff.mp h1).1
        rwa [List.length_set] at this
      rw [List.getElem?_set_self hl] at h1
      have h3 : s = some t := Option.some.inj h1
      rw [h3, h2] at hs
      cases hs
    · rw [List.getElem?_set_ne e] at h1
      exact ⟨e, h1⟩
  have nb : ∀ t, isBx t = true → noFp (some t) = false := fun t h => by cases t <;> first | rfl | cases h
  refine ⟨fun j b k p xs h => ?_, fun j k xss h => ?_, fun a b s1 t q ab ha hb h1 f1 f2 => ?_⟩
  · obtain ⟨n, h'⟩ := off j _ h rfl
    rw [List.getElem?_set_ne n]
    exact R.obj j b k p xs h'
  · obtain ⟨n, h'⟩ := off j _ h rfl
    rw [List.getElem?_set_ne n]
    exact R.bxs j k xss h'
  · obtain ⟨n, ha'⟩ := off a _ ha (nb _ h1)
    have ht : noFp (some t) = false := by cases t <;> first | rfl | exact f2.elim
    obtain ⟨m, hb'⟩ := off b _ hb ht
    have g : ∀ (c : Nat) u, i ≠ c → Fp (σ.set i v) H c u q → Fp σ H c u q := fun c u n f => by
      cases u <;> first | exact f.elim | (unfold Fp at f ⊢; simp only [List.getElem?_set_ne n] at f; exact f)
    exact R.sep a b s1 t q ab ha' hb' h1 (g a s1 n f1) (g b t m f2)
theorem freeze_no {i : Nat} {s : Sl} (h : (freeze r)[i]? = some (some s)) : isBx s = false := by
  unfold freeze at h
  rw [List.getElem?_map] at h
  cases e : r[i]? with
  | none => rw [e] at h; cases h
  | some u =>
    rw [e] at h
    have h' : frz1 u = some s := by simpa using h
    cases u with
    | none => cases h'
    | some u => cases u <;> first | (cases h'; done) | (cases h'; rfl) | (rename_i k _; cases k <;> first | (cases h'; done) | (cases h'; rfl))
end

section
variable {K : PySem.W.Frag} {O0 O O' : List Addr} {σ : L2.St} {H H' : Hp} {r : Env}
theorem RepE0.mn (R : RepE0 K O0 O σ H r) (e : Same H H') : RepE0 K O0 O σ H' r where
  len := R.len
  dat := fun i d h => let ⟨v, h1, h2⟩ := R.dat i d h; ⟨v, h1, h2.mn (hide_same e)⟩
  own := fun i xs h => let ⟨p, vs, h1, h2, h3, h4, h5⟩ := R.own i xs h; ⟨p, vs, h1, h2, h3, e _ _ h4, h5.mn (hide_same e)⟩
  scr := fun i xs h => let ⟨p, vs, h1, h2, h3⟩ := R.scr i xs h; ⟨p, vs, h1, same_l (hide_same e) h2, h3.mn (hide_same e)⟩
  exc := fun i c h => let ⟨p, C, h1, h2, h3⟩ := R.exc i c h; ⟨p, C, h1, h2, hide_same e p _ h3⟩
  inj := R.inj
  trk := R.trk.mn e
  sub := R.sub
  nt := fun p hp => (R.nt p hp).imp id fun ⟨o, h, z⟩ => ⟨o, e _ _ h, z⟩
theorem boxes_rp {K : PySem.W.Frag} {H : Hp} : ∀ {as : List Addr} {xss : List (List Dt)}, as.length = xss.length → (∀ (j : Nat) (a : Addr) (xs : List Dt), as[j]? = some a → xss[j]? = some xs → ∃ ws, H a = some (.lst ws) ∧ RpAll K H ws xs) → RpAll K H (as.map V.ref) (xss.map PyData.list)
  | [], [], _, _ => .nil
  | [], _ :: _, h, _ => by cases h
  | _ :: _, [], h, _ => by cases h
  | a :: as, xs :: xss, h, f => by
    obtain ⟨ws, h1, h2⟩ := f 0 a xs rfl rfl
    exact .cons (.lst (Rd.of h1) h2) (boxes_rp (by simpa using h) fun j b ys hb hy => f (j + 1) b ys hb hy)
theorem RepE0.frz (R : RepE0 K O0 O σ H r) (B : RepB K O0 O σ H r) : RepE0 K [] [] σ H (freeze r) where
  len := by rw [R.len]; unfold freeze; rw [List.length_map]
  dat := fun i d h => by
    unfold freeze at h
    rw [List.getElem?_map] at h
    cases e : r[i]? with
    | none => rw [e] at h; cases h
    | some s =>
      rw [e] at h
      have h' : frz1 s = some (.d d) := by simpa using h
      cases s with
      | none => cases h'
      | some s =>
        cases s with
        | d x =>
          have : x = d := by simpa [frz1] using h'
          subst this
          obtain ⟨v, h1, h2⟩ := R.dat i x e
          exact ⟨v, h1, h2.mn fun b o z => by
            have := hide_sub b o z
            unfold hide
            rw [if_neg (by simp)]
            exact this⟩
        | own xs =>
          have : PyData.list xs = d := by simpa [frz1] using h'
          subst this
          obtain ⟨p, vs, h1, h2, h3, h4, h5⟩ := R.own i xs e
          exact ⟨_, h1, .lst (Rd.of (by unfold hide; rw [if_neg (by simp)]; exact h4)) (h5.mn fun b o z => by
            have := hide_sub b o z
            unfold hide
            rw [if_neg (by simp)]
            exact this)⟩
        | scr xs => simp [frz1] at h'
        | obj _ _ _ _ => cases h'
        | bxs k xss =>
          cases k with
          | true => cases h'
          | false =>
            have hd : PyData.list (xss.map .list) = d := by simpa [frz1] using h'
            subst hd
            obtain ⟨p, as, h1, h2, h3, h4, h5, h6, h7, h8⟩ := B.bxs i false xss e
            have hh : hide [] H = H := by funext b; unfold hide; rw [if_neg (by simp)]
            refine ⟨_, h1, .lst (Rd.of (by rw [hh]; exact h4)) ?_⟩
            rw [hh]
            exact boxes_rp h7 fun j a xs ha hx => by
              obtain ⟨_, _, ws, z1, z2⟩ := h8 j a xs ha hx
              exact ⟨ws, z1, z2.mn hide_sub⟩
        | exc xs => simp [frz1] at h'
  exc := fun i c h => by
    unfold freeze at h
    rw [List.getElem?_map] at h
    cases e : r[i]? with
    | none => rw [e] at h; cases h
    | some s =>
      rw [e] at h
      have h' : frz1 s = some (.exc c) := by simpa using h
      cases s with
      | none => cases h'
      | some s =>
        cases s with
        | d x => cases h'
        | own x => cases h'
        | scr x => cases h'
        | obj _ _ _ _ => cases h'
        | bxs k _ => cases k <;> cases h'
        | exc y =>
          have : y = c := by simpa [frz1] using h'
          subst this
          obtain ⟨p, C, h1, h2, h3⟩ := R.exc i y e
          exact ⟨p, C, h1, h2, by unfold hide; rw [if_neg (by simp)]; exact hide_sub _ _ h3⟩
  scr := fun i xs h => by
    unfold freeze at h
    rw [List.getElem?_map] at h
    cases e : r[i]? with
    | none => rw [e] at h; cases h
    | some s =>
      rw [e] at h
      have h' : frz1 s = some (.scr xs) := by simpa using h
      cases s with
      | none => cases h'
      | some s =>
        cases s with
        | d x => cases h'
        | own x => cases h'
        | obj _ _ _ _ => cases h'
        | bxs k _ => cases k <;> cases h'
        | exc x => cases h'
        | scr ys =>
          have : ys = xs := by simpa [frz1] using h'
          subst this
          have s : Same (hide O H) (hide [] H) := fun b o z => by
            have := hide_sub b o z
            unfold hide
            rw [if_neg (by simp)]
            exact this
          obtain ⟨p, vs, h1, h2, h3⟩ := R.scr i ys e
          exact ⟨p, vs, h1, same_l s h2, h3.mn s⟩
  own := fun i xs h => by
    exfalso
    unfold freeze at h
    rw [List.getElem?_map] at h
    cases e : r[i]? with
    | none => rw [e] at h; cases h
    | some s =>
      rw [e] at h
      have h' : frz1 s = some (.own xs) := by simpa using h
      cases s with
      | none => cases h'
      | some s => cases s <;> first | (cases h'; done) | (rename_i k _; cases k <;> cases h')
  inj := fun i j p xs ys _ h => by
    exfalso
    unfold freeze at h
    rw [List.getElem?_map] at h
    cases e : r[i]? with
    | none => rw [e] at h; cases h
    | some s =>
      rw [e] at h
      have h' : frz1 s = some (.own xs) := by simpa using h
      cases s with
      | none => cases h'
      | some s => cases s <;> first | (cases h'; done) | (rename_i k _; cases k <;> cases h')
  trk := fun p h => by cases h
  sub := fun p h => h
  nt := fun p h => by cases h
/-- a data value is stored -/
theorem RepE0.set (R : RepE0 K O0 O σ H r) {i : Nat} {v : V} {d : Dt} (h : Rp K (hide O H) v d) : RepE0 K O0 O (σ.set i (some v)) H (r.set i (some (.d d))) where
  len := by rw [List.length_set, List.length_set, R.len]
  dat := fun j x hj => by
    by_cases e : i = j
    · subst e
      have hl : i < r.length := by
        have := (List.getElem?_eq_some_iff.mp hj).1
        rwa [List.length_set] at this
      rw [List.getElem?_set_self hl] at hj
      cases hj
      exact ⟨v, List.getElem?_set_self (by rw [R.len]; exact hl), h⟩
    · rw [List.getElem?_set_ne e] at hj ⊢
      exact R.dat j x hj
  own := fun j xs hj => by
    by_cases e : i = j
    · subst e
      have hl : i < r.length := by
        have := (List.getElem?_eq_some_iff.mp hj).1
        rwa [List.length_set] at this
      rw [List.getElem?_set_self hl] at hj
      cases hj
    · rw [List.getElem?_set_ne e] at hj ⊢
      exact R.own j xs hj
  scr := fun j xs hj => by
    by_cases e : i = j
    · subst e
      have hl : i < r.length := by
        have := (List.getElem?_eq_some_iff.mp hj).1
        rwa [List.length_set] at this
      rw [List.getElem?_set_self hl] at hj
      cases hj
    · rw [List.getElem?_set_ne e] at hj ⊢
      exact R.scr j xs hj
  exc := fun j xs hj => by
    by_cases e : i = j
    · subst e
      have hl : i < r.length := by
        have := (List.getElem?_eq_some_iff.mp hj).1
        rwa [List.length_set] at this
      rw [List.getElem?_set_self hl] at hj
      cases hj
    · rw [List.getElem?_set_ne e] at hj ⊢
      exact R.exc j xs hj
  inj := fun a b p xs ys ab ha hb va vb => by
    have na : i ≠ a := fun e => by
      subst e
      have hl : i < r.length := by
        have := (List.getElem?_eq_some_iff.mp ha).1
        rwa [List.length_set] at this
      rw [List.getElem?_set_self hl] at ha
      cases ha
    have nb : i ≠ b := fun e => by
      subst e
      have hl : i < r.length := by
        have := (List.getElem?_eq_some_iff.mp hb).1
        rwa [List.length_set] at this
      rw [List.getElem?_set_self hl] at hb
      cases hb
    rw [List.getElem?_set_ne na] at ha va
    rw [List.getElem?_set_ne nb] at hb vb
    exact R.inj a b p xs ys ab ha hb va vb
  trk := R.trk
  sub := R.sub
  nt := R.nt
/-- a slot is forgotten -/
theorem RepE0.drop1 (R : RepE0 K O0 O σ H r) (i : Nat) : RepE0 K O0 O (σ.set i none) H (r.set i none) where
  len := by rw [List.length_set, List.length_set, R.len]
  dat := fun j x hj => by
    by_cases e : i = j
    · subst e
      have hl : i < r.length := by
        have := (List.getElem?_eq_some_iff.mp hj).1
        rwa [List.length_set] at this
      rw [List.getElem?_set_self hl] at hj
      cases hj
    · rw [List.getElem?_set_ne e] at hj ⊢
      exact R.dat j x hj
  own := fun j xs hj => by
    by_cases e : i = j
    · subst e
      have hl : i < r.length := by
        have := (List.getElem?_eq_some_iff.mp hj).1
        rwa [List.length_set] at this
      rw [List.getElem?_set_self hl] at hj
      cases hj
    · rw [List.getElem?_set_ne e] at hj ⊢
      exact R.own j xs hj
  scr := fun j xs hj => by
    by_cases e : i = j
    · subst e
      have hl : i < r.length := by
        have := (List.getElem?_eq_some_iff.mp hj).1
        rwa [List.length_set] at this
      rw [List.getElem?_set_self hl] at hj
      cases hj
    · rw [List.getElem?_set_ne e] at hj ⊢
      exact R.scr j xs hj
  exc := fun j xs hj => by
    by_cases e : i = j
    · subst e
      have hl : i < r.length := by
        have := (List.getElem?_eq_some_iff.mp hj).1
        rwa [List.length_set] at this
      rw [List.getElem?_set_self hl] at hj
      cases hj
    · rw [List.getElem?_set_ne e] at hj ⊢
      exact R.exc j xs hj
  inj := fun a b p xs ys ab ha hb va vb => by
    have na : i ≠ a := fun e => by
      subst e
      have hl : i < r.length := by
        have := (List.getElem?_eq_some_iff.mp ha).1
        rwa [List.length_set] at this
      rw [List.getElem?_set_self hl] at ha
      cases ha
    have nb : i ≠ b := fun e => by
      subst e
      have hl : i < r.length := by
        have := (List.getElem?_eq_some_iff.mp hb).1
        rwa [List.length_set] at this
      rw [List.getElem?_set_self hl] at hb
      cases hb
    rw [List.getElem?_set_ne na] at ha va
    rw [List.getElem?_set_ne nb] at hb vb
    exact R.inj a b p xs ys ab ha hb va vb
  trk := R.trk
  sub := R.sub
  nt := R.nt
theorem RepE.mn (R : RepE K O0 O σ H r) (e : Same H H') : RepE K O0 O σ H' r := ⟨R.toRepE0.mn e, R.bx.mn e⟩
theorem RepE.frz (R : RepE K O0 O σ H r) : RepE K [] [] σ H (freeze r) := ⟨R.toRepE0.frz R.bx, RepB.none fun _ _ h => freeze_no h⟩
theorem RepE.set (R : RepE K O0 O σ H r) {i : Nat} {v : V} {d : Dt} (h : Rp K (hide O H) v d) : RepE K O0 O (σ.set i (some v)) H (r.set i (some (.d d))) := ⟨R.toRepE0.set h, R.bx.setN i _ _ rfl⟩
theorem RepE.drop1 (R : RepE K O0 O σ H r) (i : Nat) : RepE K O0 O (σ.set i none) H (r.set i none) := ⟨R.toRepE0.drop1 i, R.bx.setN i _ _ rfl⟩
theorem RepE.wipe (R : RepE K O0 O σ H r) : ∀ vs : List Nat, RepE K O0 O (L2.wipe σ vs) H (wipeD r vs)
  | [] => R
  | v :: vs => (RepE.wipe R vs).drop1 v
end

/-! ### readings -/
def tD (K : PySem.W.Frag) (f : FE) : TE := fun σ H Q => ∃ O0 O r d, RepE K O0 O σ H r ∧ f r = some d ∧ ∀ v H', Same H H' → Rp K (hide O H') v d → Q v H'
def tDA (K : PySem.W.Frag) (f : FA) : TA := fun σ H Q => ∃ O0 O r ds, RepE K O0 O σ H r ∧ f r = some ds ∧ ∀ vs H', Same H H' → RpAll K (hide O H') vs ds → Q vs H'
def tDT (K : PySem.W.Frag) (f : FE) : TT := fun σ H Q => ∃ O0 O r b, RepE K O0 O σ H r ∧ f r = some (.bool b) ∧ ∀ H', Same H H' → Q b H'
def rD (K : PySem.W.Frag) (o : Dt → Dt → Option Dt) : R2 := fun x y H Q => ∃ O d e z, Trk O H ∧ Rp K (hide O H) x d ∧ Rp K (hide O H) y e ∧ o d e = some z ∧ ∀ v H', Same H H' → Rp K (hide O H') v z → Q v H'
def uD (K : PySem.W.Frag) (o : Dt → Option Dt) : V → Hp → VK → Prop := fun x H Q => ∃ O d z, Trk O H ∧ Rp K (hide O H) x d ∧ o d = some z ∧ ∀ v H', Same H H' → Rp K (hide O H') v z → Q v H'
def cD (K : PySem.W.Frag) (o : List Dt → Option Dt) : List V → Hp → VK → Prop := fun xs H Q => ∃ O ds z, Trk O H ∧ RpAll K (hide O H) xs ds ∧ o ds = some z ∧ ∀ v H', Same H H' → Rp K (hide O H') v z → Q v H'
def spD (K : PySem.W.Frag) (g : List Dt → Option Dt) : Sp := fun vs H Q _ => cD K g vs H Q

theorem _root_.L2.PE.imp {X : Cx} {e : Expr} {t t' : TE} (h : PE X e t) (i : ∀ σ H Q, t' σ H Q → t σ H Q) : PE X e t' := ⟨fun pins s σ H Q I q => h.run pins s σ H Q I (i σ H Q q)⟩
theorem _root_.L2.PT.imp {X : Cx} {e : Expr} {t t' : TT} (h : PT X e t) (i : ∀ σ H Q, t' σ H Q → t σ H Q) : PT X e t' := ⟨fun pins s σ H Q I q => h.run pins s σ H Q I (i σ H Q q)⟩
theorem _root_.L2.PW.imp {X : Cx} {e : Expr} {t t' : TT} (h : PW X e t) (i : ∀ σ H Q, t' σ H Q → t σ H Q) : PW X e t' := ⟨fun wh pins s σ H Q I q => h.run wh pins s σ H Q I (i σ H Q q)⟩
theorem _root_.L2.PA.imp {X : Cx} {e : List Expr} {t t' : TA} (h : PA X e t) (i : ∀ σ H Q, t' σ H Q → t σ H Q) : PA X e t' := ⟨fun pos pins s σ H Q I q => h.run pos pins s σ H Q I (i σ H Q q)⟩
theorem _root_.L2.PS.imp {X : Cx} {e : Stmt} {t t' : TS} (h : PS X e t) (i : ∀ D σ H, t' D σ H → t D σ H) : PS X e t' := ⟨fun pins s σ H D I q => h.run pins s σ H D I (i D σ H q)⟩
theorem _root_.L2.PSs.imp {X : Cx} {e : List Stmt} {t t' : TS} (h : PSs X e t) (i : ∀ D σ H, t' D σ H → t D σ H) : PSs X e t' := ⟨fun pins s σ H D I q => h.run pins s σ H D I (i D σ H q)⟩
theorem _root_.L2.PG.imp {X : Cx} {e : Expr} {t t' : TG} (h : PG X e t) (i : ∀ v σ H Q, t' v σ H Q → t v σ H Q) : PG X e t' := ⟨fun pins s σ H v u Q I r q => h.run pins s σ H v u Q I r (i v σ H Q q)⟩
theorem _root_.L2.PI.imp {X : Cx} {tg e : Expr} {t t' : TI} (h : PI X tg e t) (i : ∀ σ H R, t' σ H R → t σ H R) : PI X tg e t' := ⟨fun pins s σ H R I q => h.run pins s σ H R I (i σ H R q)⟩

/-! ### expressions -/
section
variable {X : Cx} {a b c : Expr} {es : List Expr} {f g h : FE} {pos : Pos}

theorem dVar {i : Nat} {x : Str} (h : PE X (.Name x pos) (tVar i)) : PE X (.Name x pos) (tD X.K (eVar i)) := h.imp fun σ H Q ⟨O0, O, r, d, R, e, q⟩ => by
  have e' : r[i]? = some (some (.d d)) := by
    unfold eVar at e
    split at e
    · rename_i y hy
      cases e
      exact hy
    · cases e
  obtain ⟨v, h1, h2⟩ := R.dat i d e'
  exact ⟨v, h1, q v H (Same.refl H) h2⟩
theorem dC {v : V} {d : Dt} (h : PE X a (tC v)) (hr : ∀ H, Rp X.K H v d) : PE X a (tD X.K (eC d)) := h.imp fun σ H Q ⟨O0, O, r, d', R, e, q⟩ => by
  cases e
  exact q v H (Same.refl H) (hr _)
theorem dInt {i : Int} {j} : PE X (.Constant (.int i) j pos) (tD X.K (eC (.int i))) := dC pe_int fun _ => .int i
theorem dBl {i : Bool} {j} : PE X (.Constant (.bool i) j pos) (tD X.K (eC (.bool i))) := dC pe_bl fun _ => .bl i
theorem dStr {i : Str} {j} : PE X (.Constant (.str i) j pos) (tD X.K (eC (.str i))) := dC pe_str fun _ => .str i
theorem dNon {j} : PE X (.Constant .none j pos) (tD X.K (eC .none)) := dC pe_non fun _ => .non

theorem tD_op {r : R2} {o : Dt → Dt → Option Dt} (i : ∀ x y H Q, rD X.K o x y H Q → r x y H Q) {σ : L2.St} {H : Hp} {Q : VK} (q : tD X.K (eOp o f g) σ H Q) : tOp r (tD X.K f) (tD X.K g) σ H Q := by
  obtain ⟨O0, O, r, d, R, e, q⟩ := q
  unfold eOp at e
  obtain ⟨x, ex, e⟩ := Option.bind_eq_some_iff.mp e
  obtain ⟨y, ey, e⟩ := Option.bind_eq_some_iff.mp e
  refine ⟨O0, O, r, x, R, ex, fun v H1 s1 r1 => ⟨O0, O, r, y, R.mn s1, ey, fun w H2 s2 r2 => i _ _ _ _ ?_⟩⟩
  exact ⟨O, x, y, d, (R.trk.mn s1).mn s2, r1.mn (hide_same s2), r2, e, fun z H3 s3 r3 => q z H3 ((s1.trans s2).trans s3) r3⟩
theorem dOp {op : Operator} {o : Dt → Dt → Option Dt} (ho : OpR X (binaryOp op) (rD X.K o)) (ha : PE X a (tD X.K f)) (hb : PE X b (tD X.K g)) : PE X (.BinOp a op b pos) (tD X.K (eOp o f g)) :=
  (pe_op ho ha hb).imp fun _ _ _ q => tD_op (fun _ _ _ _ z => z) q
theorem dCmp {op : CmpOp} {o : Dt → Dt → Option Dt} (ho : OpR X (compareOp op) (rD X.K o)) (ha : PE X a (tD X.K f)) (hb : PE X b (tD X.K g)) (hm : behindInMarks op b = false) : PE X (.Compare a [op] [b] pos) (tD X.K (eOp o f g)) :=
  (pe_cmpR ho ha hb hm).imp fun _ _ _ q => tD_op (fun _ _ _ _ z => z) q
theorem rp_bl {K : PySem.W.Frag} {H : Hp} {v : V} {b : Bool} (h : Rp K H v (.bool b)) : v = .bl b := by cases h; rfl
theorem rp_int {K : PySem.W.Frag} {H : Hp} {v : V} {b : Int} (h : Rp K H v (.int b)) : v = .int b := by cases h; rfl
theorem rp_str {K : PySem.W.Frag} {H : Hp} {v : V} {b : Str} (h : Rp K H v (.str b)) : v = .str b := by cases h; rfl
theorem tDT_D {σ : L2.St} {H : Hp} {Q : Bool → Hp → Prop} (q : tDT X.K f σ H Q) : tD X.K f σ H (fun x H' => ∃ k, x = .bl k ∧ Q k H') := by
  obtain ⟨O0, O, r, b, R, e, q⟩ := q
  exact ⟨O0, O, r, _, R, e, fun v H' s rv => ⟨b, rp_bl rv, q H' s⟩⟩
theorem tCmp_ {op : CmpOp} {o : Dt → Dt → Option Dt} (ho : OpR X (compareOp op) (rD X.K o)) (ha : PE X a (tD X.K f)) (hb : PE X b (tD X.K g)) (hm : behindInMarks op b = false) : PT X (.Compare a [op] [b] pos) (tDT X.K (eOp o f g)) :=
  (pt_cmpR ho ha hb hm).imp fun σ H Q q => tD_op (fun _ _ _ _ z => z) (tDT_D q)
theorem tVal_ (h : PE X a (tD X.K f)) (he : ∀ whole, isTrue a X.env whole = (do let v ← whole; standAt a.pos; holding [v] (truthy v)) := by intro _; rfl) : PT X a (tDT X.K f) :=
  (pt_val h he).imp fun σ H Q q => tDT_D q
theorem toB_eq {z : Dt} {k : Bool} (h : toB z = some k) : z = .bool k := by cases z <;> simp [toB] at h; rw [h]
theorem chain_imp {o o' : Dt → Dt → Option Dt} {σ : L2.St} {H : Hp} {Q : VK} (q : tD X.K (eChain o o' f g h) σ H Q) : tChain (rD X.K o) (rD X.K o') (tD X.K f) (tD X.K g) (tD X.K h) σ H Q := by
  obtain ⟨O0, O, r, d, R, e1, q⟩ := q
  unfold eChain at e1
  obtain ⟨x, ex, e2⟩ := Option.bind_eq_some_iff.mp e1
  obtain ⟨y, ey, e3⟩ := Option.bind_eq_some_iff.mp e2
  obtain ⟨z, ez, e4⟩ := Option.bind_eq_some_iff.mp e3
  obtain ⟨k, ek, e5⟩ := Option.bind_eq_some_iff.mp e4
  clear e1 e2 e3 e4
  have hz : z = .bool k := toB_eq ek
  subst hz
  refine ⟨O0, O, r, x, R, ex, fun v H1 s1 r1 => ⟨O0, O, r, y, R.mn s1, ey, fun w H2 s2 r2 => ⟨O, x, y, _, (R.trk.mn s1).mn s2, r1.mn (hide_same s2), r2, ez, fun u H3 s3 r3 => ?_⟩⟩⟩
  refine ⟨k, rp_bl r3, ?_⟩
  cases k with
  | true =>
    rw [if_pos rfl] at e5 ⊢
    obtain ⟨w', ew, e6⟩ := Option.bind_eq_some_iff.mp e5
    refine ⟨O0, O, r, w', ((R.mn s1).mn s2).mn s3, ew, fun t H4 s4 r4 => ⟨O, y, w', d, (((R.trk.mn s1).mn s2).mn s3).mn s4, (r2.mn (hide_same s3)).mn (hide_same s4), r4, e6, fun z' H5 s5 r5 => ?_⟩⟩
    exact q z' H5 ((((s1.trans s2).trans s3).trans s4).trans s5) r5
  | false =>
    rw [if_neg Bool.false_ne_true] at e5 ⊢
    cases e5
    exact q _ H3 ((s1.trans s2).trans s3) (.bl false)
theorem dChain {op op' : CmpOp} {o o' : Dt → Dt → Option Dt} (ho : OpR X (compareOp op) (rD X.K o)) (ho' : OpR X (compareOp op') (rD X.K o')) (ha : PE X a (tD X.K f)) (hb : PE X b (tD X.K g)) (hc : PE X c (tD X.K h))
    (hm : lastMarks [op, op'] [b, c] = false := by with_unfolding_all rfl) : PE X (.Compare a [op, op'] [b, c] pos) (tD X.K (eChain o o' f g h)) := (pe_chain ho ho' ha hb hc hm).imp fun _ _ _ q => chain_imp q
theorem tChain_ {op op' : CmpOp} {o o' : Dt → Dt → Option Dt} (ho : OpR X (compareOp op) (rD X.K o)) (ho' : OpR X (compareOp op') (rD X.K o')) (ha : PE X a (tD X.K f)) (hb : PE X b (tD X.K g)) (hc : PE X c (tD X.K h))
    (hm : lastMarks [op, op'] [b, c] = false := by with_unfolding_all rfl) : PT X (.Compare a [op, op'] [b, c] pos) (tDT X.K (eChain o o' f g h)) := (pt_chain ho ho' ha hb hc hm).imp fun _ _ _ q => chain_imp (tDT_D q)
theorem dAnd {rest : List Expr} (ha : PE X a (tD X.K f)) (hb : PE X (.BoolOp .And (b :: rest) pos) (tD X.K g)) : PE X (.BoolOp .And (a :: b :: rest) pos) (tD X.K (eAnd f g)) := (pe_and ha hb).imp fun σ H Q ⟨O0, O, r, d, R, e, q⟩ => by
  unfold eAnd at e
  obtain ⟨x, ex, e⟩ := Option.bind_eq_some_iff.mp e
  obtain ⟨k, ek, e⟩ := Option.bind_eq_some_iff.mp e
  have := toB_eq ek; subst this
  refine ⟨O0, O, r, _, R, ex, fun v H1 s1 r1 => ⟨k, rp_bl r1, ?_⟩⟩
  cases k with
  | true => exact ⟨O0, O, r, d, R.mn s1, e, fun v H2 s2 r2 => q v H2 (s1.trans s2) r2⟩
  | false => cases e; exact q _ H1 s1 (.bl false)
theorem dOr {rest : List Expr} (ha : PE X a (tD X.K f)) (hb : PE X (.BoolOp .Or (b :: rest) pos) (tD X.K g)) : PE X (.BoolOp .Or (a :: b :: rest) pos) (tD X.K (eOr f g)) := (pe_or ha hb).imp fun σ H Q ⟨O0, O, r, d, R, e, q⟩ => by
  unfold eOr at e
  obtain ⟨x, ex, e⟩ := Option.bind_eq_some_iff.mp e
  obtain ⟨k, ek, e⟩ := Option.bind_eq_some_iff.mp e
  have := toB_eq ek; subst this
  refine ⟨O0, O, r, _, R, ex, fun v H1 s1 r1 => ⟨k, rp_bl r1, ?_⟩⟩
  cases k with
  | false => exact ⟨O0, O, r, d, R.mn s1, e, fun v H2 s2 r2 => q v H2 (s1.trans s2) r2⟩
  | true => cases e; exact q _ H1 s1 (.bl true)
theorem dOne {op} (h : PE X a (tD X.K f)) : PE X (.BoolOp op [a] pos) (tD X.K f) := pe_one h
theorem dNot (ha : PE X a (tD X.K f)) : PE X (.UnaryOp .Not a pos) (tD X.K (eNot f)) := (pe_not ha).imp fun σ H Q ⟨O0, O, r, d, R, e, q⟩ => by
  unfold eNot at e
  obtain ⟨x, ex, e⟩ := Option.bind_eq_some_iff.mp e
  obtain ⟨k, ek, e⟩ := Option.bind_eq_some_iff.mp e
  have := toB_eq ek; subst this
  cases e
  exact ⟨O0, O, r, _, R, ex, fun v H1 s1 r1 => ⟨k, rp_bl r1, q _ H1 s1 (.bl _)⟩⟩
theorem tNot_ (ha : PT X a (tDT X.K f)) : PT X (.UnaryOp .Not a pos) (tDT X.K (eNot f)) := (pt_not ha).imp fun σ H Q ⟨O0, O, r, d, R, e, q⟩ => by
  unfold eNot at e
  obtain ⟨x, ex, e⟩ := Option.bind_eq_some_iff.mp e
  obtain ⟨k, ek, e⟩ := Option.bind_eq_some_iff.mp e
  have := toB_eq ek; subst this
  cases e
  exact ⟨O0, O, r, k, R, ex, fun H1 s1 => q H1 s1⟩
theorem wAnd {rest : List Expr} (ha : PT X a (tDT X.K f)) (hb : PW X (.BoolOp .And (b :: rest) pos) (tDT X.K g)) : PW X (.BoolOp .And (a :: b :: rest) pos) (tDT X.K (eAnd f g)) := (pw_and ha hb).imp fun σ H Q ⟨O0, O, r, d, R, e, q⟩ => by
  unfold eAnd at e
  obtain ⟨x, ex, e⟩ := Option.bind_eq_some_iff.mp e
  obtain ⟨k, ek, e⟩ := Option.bind_eq_some_iff.mp e
  have := toB_eq ek; subst this
  refine ⟨O0, O, r, k, R, ex, fun H1 s1 => ?_⟩
  cases k with
  | true => exact ⟨O0, O, r, d, R.mn s1, e, fun H2 s2 => q H2 (s1.trans s2)⟩
  | false => cases e; exact q H1 s1
theorem wOr {rest : List Expr} (ha : PT X a (tDT X.K f)) (hb : PW X (.BoolOp .Or (b :: rest) pos) (tDT X.K g)) : PW X (.BoolOp .Or (a :: b :: rest) pos) (tDT X.K (eOr f g)) := (pw_or ha hb).imp fun σ H Q ⟨O0, O, r, d, R, e, q⟩ => by
  unfold eOr at e
  obtain ⟨x, ex, e⟩ := Option.bind_eq_some_iff.mp e
  obtain ⟨k, ek, e⟩ := Option.bind_eq_some_iff.mp e
  have := toB_eq ek; subst this
  refine ⟨O0, O, r, k, R, ex, fun H1 s1 => ?_⟩
  cases k with
  | false => exact ⟨O0, O, r, d, R.mn s1, e, fun H2 s2 => q H2 (s1.trans s2)⟩
  | true => cases e; exact q H1 s1
theorem wAnd1 (ha : PT X a (tDT X.K f)) : PW X (.BoolOp .And [a] pos) (tDT X.K f) := pw_and1 ha
theorem wOr1 (ha : PT X a (tDT X.K f)) : PW X (.BoolOp .Or [a] pos) (tDT X.K f) := pw_or1 ha
theorem dIf (hc : PT X c (tDT X.K h)) (ha : PE X a (tD X.K f)) (hb : PE X b (tD X.K g)) : PE X (.IfExp c a b pos) (tD X.K (eIf h f g)) := (pe_ifExp hc ha hb).imp fun σ H Q ⟨O0, O, r, d, R, e, q⟩ => by
  unfold eIf at e
  obtain ⟨x, ex, e⟩ := Option.bind_eq_some_iff.mp e
  obtain ⟨k, ek, e⟩ := Option.bind_eq_some_iff.mp e
  have := toB_eq ek; subst this
  refine ⟨O0, O, r, k, R, ex, fun H1 s1 => ?_⟩
  cases k with
  | true => exact ⟨O0, O, r, d, R.mn s1, e, fun v H2 s2 r2 => q v H2 (s1.trans s2) r2⟩
  | false => exact ⟨O0, O, r, d, R.mn s1, e, fun v H2 s2 r2 => q v H2 (s1.trans s2) r2⟩
theorem rp_flat {K : PySem.W.Frag} {H H' : Hp} {v : V} {d : Dt} (hf : flatD d = true) (h : Rp K H v d) : Rp K H' v d := by
  cases d <;> first | (cases hf; done) | (cases h; first | exact .non | exact .bl _ | exact .int _ | exact .str _)
theorem dFz (h : PE X a (tD X.K f)) : PE X a (tD X.K (eFz f)) := h.imp fun σ H Q ⟨O0, O, r, d, R, e, q⟩ => by
  unfold eFz at e
  obtain ⟨x, ex, e⟩ := Option.bind_eq_some_iff.mp e
  by_cases hf : flatD x = true
  · rw [if_pos hf] at e
    cases e
    exact ⟨[], [], freeze r, _, R.frz, ex, fun v H1 s1 r1 => q v H1 s1 (rp_flat hf r1)⟩
  · rw [if_neg hf] at e; cases e
theorem tFz (h : PT X a (tDT X.K f)) : PT X a (tDT X.K (eFz f)) := h.imp fun σ H Q ⟨O0, O, r, d, R, e, q⟩ => by
  unfold eFz at e
  obtain ⟨x, ex, e⟩ := Option.bind_eq_some_iff.mp e
  by_cases hf : flatD x = true
  · rw [if_pos hf] at e
    cases e
    exact ⟨[], [], freeze r, d, R.frz, ex, fun H1 s1 => q H1 s1⟩
  · rw [if_neg hf] at e; cases e

/-! arguments, displays, calls -/
theorem aNil_ : PA X [] (tDA X.K aNil) := pa_nil.imp fun σ H Q ⟨O0, O, r, d, R, e, q⟩ => by
  cases e
  exact q [] H (Same.refl H) .nil
theorem aCons_ {t : FA} (ha : PE X a (tD X.K f)) (hr : PA X es (tDA X.K t)) (hs : starEach (a :: es) X.env = (false, eval a X.env) :: starEach es X.env := by rfl) : PA X (a :: es) (tDA X.K (aCons f t)) := (pa_cons ha hr hs).imp fun σ H Q ⟨O0, O, r, d, R, e, q⟩ => by
  unfold aCons at e
  obtain ⟨x, ex, e⟩ := Option.bind_eq_some_iff.mp e
  obtain ⟨xs, exs, e⟩ := Option.bind_eq_some_iff.mp e
  cases e
  exact ⟨O0, O, r, x, R, ex, fun v H1 s1 r1 => ⟨O0, O, r, xs, R.mn s1, exs, fun vs H2 s2 r2 => q _ H2 (s1.trans s2) (.cons (r1.mn (hide_same s2)) r2)⟩⟩
theorem sizeOk_le {n : Nat} (h : sizeOk n = true) : n ≤ sizeLine := Nat.le_trans (of_decide_eq_true h) (by decide)
theorem sizeOk_lt {n : Nat} (h : sizeOk n = true) : n < sizeLine := Nat.lt_of_le_of_lt (of_decide_eq_true h) (by decide)
theorem rp_newL {K : PySem.W.Frag} {O : List Addr} {H : Hp} {p : Addr} {vs : List V} {ds : List Dt} (t : Trk O H) (hp : H p = none) (h : RpAll K (hide O H) vs ds) : Rp K (hide O (upd H p (.lst vs))) (.ref p) (.list ds) :=
  .lst (Rd.of (hide_in (t.no hp) upd_same)) (h.mn (hide_same (same_new hp)))
theorem rp_newT {K : PySem.W.Frag} {O : List Addr} {H : Hp} {p : Addr} {vs : List V} {ds : List Dt} (t : Trk O H) (hp : H p = none) (h : RpAll K (hide O H) vs ds) : Rp K (hide O (upd H p (.tup vs))) (.ref p) (.tuple ds) :=
  .tup (SqT.of (hide_in (t.no hp) upd_same)) (h.mn (hide_same (same_new hp)))
theorem dTup {t : FA} {x1} (h : PA X es (tDA X.K t)) : PE X (.Tuple es x1 pos) (tD X.K (eTup t)) := (pe_tup h).imp fun σ H Q ⟨O0, O, r, d, R, e, q⟩ => by
  unfold eTup at e
  obtain ⟨xs, exs, e⟩ := Option.bind_eq_some_iff.mp e
  by_cases hf : sizeOk xs.length = true
  · rw [if_pos hf] at e
    cases e
    exact ⟨O0, O, r, xs, R, exs, fun vs H1 s1 r1 => ⟨by rw [r1.length]; exact sizeOk_le hf, fun p hp => q _ _ (s1.trans (same_new hp)) (rp_newT (R.trk.mn s1) hp r1)⟩⟩
  · rw [if_neg hf] at e; cases e
theorem dLst {t : FA} (h : PA X es (tDA X.K t)) : PE X (.List es pos) (tD X.K (eLst t)) := (pe_lst h).imp fun σ H Q ⟨O0, O, r, d, R, e, q⟩ => by
  unfold eLst at e
  obtain ⟨xs, exs, e⟩ := Option.bind_eq_some_iff.mp e
  by_cases hf : sizeOk xs.length = true
  · rw [if_pos hf] at e
    cases e
    exact ⟨O0, O, r, xs, R, exs, fun vs H1 s1 r1 => ⟨by rw [r1.length]; exact sizeOk_le hf, fun p hp => q _ _ (s1.trans (same_new hp)) (rp_newL (R.trk.mn s1) hp r1)⟩⟩
  · rw [if_neg hf] at e; cases e
theorem tD_call {t : FA} {k : List Dt → Option Dt} {σ : L2.St} {H : Hp} {Q : VK} (q : tD X.K (eCall k t) σ H Q) : tDA X.K t σ H (fun vs H1 => cD X.K k vs H1 Q) := by
  obtain ⟨O0, O, r, d, R, e, q⟩ := q
  unfold eCall at e
  obtain ⟨xs, exs, e⟩ := Option.bind_eq_some_iff.mp e
  exact ⟨O0, O, r, xs, R, exs, fun vs H1 s1 r1 => ⟨O, xs, d, R.trk.mn s1, r1, e, fun v H2 s2 r2 => q v H2 (s1.trans s2) r2⟩⟩
theorem dCall {t : FA} {k : Nat} {fa : Addr} {fd : FuncData} {ps : List Str} {gg : List Dt → Option Dt} {x : Str} {p : Pos} (F : FnOk X.prog X.w X.K X.mg X.base CX0 k fa fd ps (spD X.K gg)) (hr : Room k X.A) (hg : Gl X x) (hm : X.mg x = some (.ref fa)) (hk : PySem.W.keepIn X.K (.ref fa) = true)
    (hb : Binds X.K fd ps []) (ha : PA X (a :: es) (tDA X.K t)) (hdb : (x == ("__debug__" : Str)) = false := by decide) (he : starEach (a :: es) X.env = (false, eval a X.env) :: starEach es X.env := by rfl)
    (hpl : (backTo pos (starEach es X.env)).any (·.1) = false := by rfl) : PE X (.Call (.Name x p) (a :: es) [] pos) (tD X.K (eCall gg t)) :=
  (pe_call F hr hg hm hk hb .nil pass0 ha hdb he hpl).imp fun σ H Q q => by
    have z := tD_call q
    obtain ⟨O0, O, r, ds, R, e, z⟩ := z
    refine ⟨O0, O, r, ds, R, e, fun vs H' s rv => ?_⟩
    show spD X.K gg (vs ++ []) H' Q E0
    rw [List.append_nil]
    exact z vs H' s rv
theorem dCB {t : FA} {id : String} {x : Str} {p : Pos} {k : List Dt → Option Dt} (hc : CallR X (.builtin id) (cD X.K k)) (hg : Gl X x) (hm : X.mg x = none) (hv : bootBuiltins x = some (.builtin id)) (ha : PA X (a :: es) (tDA X.K t)) (hn : x ≠ "__name__" := by decide) (hdb : (x == ("__debug__" : Str)) = false := by decide)
    (he : starEach (a :: es) X.env = (false, eval a X.env) :: starEach es X.env := by rfl) (hpl : (backTo pos (starEach es X.env)).any (·.1) = false := by rfl) : PE X (.Call (.Name x p) (a :: es) [] pos) (tD X.K (eCall k t)) :=
  (pe_callB hc hg hm hv ha hn hdb he hpl).imp fun σ H Q q => tD_call q
theorem dCT {t : FA} {T : String} {x : Str} {p : Pos} {k : List Dt → Option Dt} (hc : CallR X (.type T) (cD X.K k)) (hg : Gl X x) (hm : X.mg x = none) (hv : bootBuiltins x = some (.type T)) (ha : PA X (a :: es) (tDA X.K t)) (hn : x ≠ "__name__" := by decide) (hdb : (x == ("__debug__" : Str)) = false := by decide)
    (he : starEach (a :: es) X.env = (false, eval a X.env) :: starEach es X.env := by rfl) (hpl : (backTo pos (starEach es X.env)).any (·.1) = false := by rfl) : PE X (.Call (.Name x p) (a :: es) [] pos) (tD X.K (eCall k t)) :=
  (pe_callTy hc hg hm hv ha hn hdb he hpl).imp fun σ H Q q => tD_call q
end
end BL

set_option Elab.async false
set_option linter.all false
set_option maxRecDepth 100000
namespace BL
open PySem PySem.Spec PyProof.Rows L2
/-! ### operators on data -/
section
variable {X : Cx}
theorem opD_add : OpR X (binaryOp .Add) (rD X.K oAdd) := by
  intro pins s σ H x y v u Q I rx ry ⟨O, d, e, z, t, hx, hy, hz, q⟩
  unfold oAdd at hz
  split at hz
  · cases hz
    rw [rp_int hx] at rx
    rw [rp_int hy] at ry
    exact op_add pins s σ H _ _ v u Q I rx ry ⟨_, _, rfl, rfl, q _ H (Same.refl H) (.int _)⟩
  · split at hz
    · cases hz
      rename_i hs
      cases hx with
      | lst hx ax =>
        cases hy with
        | lst hy ay =>
          cases rx
          cases ry
          obtain ⟨z1, its, n, r, e⟩ := (same_rd hide_sub hx).ok I.hok
          obtain ⟨z2, its2, n2, r2, e2⟩ := (same_rd hide_sub hy).ok I.hok
          have hl := sizeOk_le hs
          have l1 := ax.length
          have l3 := ay.length
          have m1 := r.length
          have m2 := r2.length
          refine PySem.P.add_list e e2 ?_ (by rw [List.size_toArray, List.size_toArray]; omega)
          have ea : its.toArray ++ its2.toArray = (its ++ its2).toArray := by simp
          rw [ea]
          refine ⟨.ref _, _, I.lnew (t' := s.toks) (r.append r2) (by rw [List.length_append]; omega), rfl, q _ _ (same_new I.fresh) ?_⟩
          exact rp_newL t I.fresh (ax.append ay)
    · cases hz
  · split at hz
    · cases hz
      rename_i hs
      rw [Bool.and_eq_true] at hs
      cases hx with
      | tup hx ax =>
        cases hy with
        | tup hy ay =>
          have hl := sizeOk_le hs.1
          have l1 := ax.length
          have l2 := ay.length
          refine op_catT pins s σ H _ _ v u Q I rx ry ⟨_, _, _, _, rfl, rfl, same_t hide_sub hx, same_t hide_sub hy, ?_, by omega, fun e => ?_, fun e p hp => ?_⟩
          · intro e
            subst e
            cases ax
            simp at hs
          · subst e
            cases ay
            rw [List.append_nil] at q
            exact q _ H (Same.refl H) (.tup hx ax)
          · exact q _ _ (same_new hp) (rp_newT t hp (ax.append ay))
    · cases hz
  · cases hz
theorem opD_sub : OpR X (binaryOp .Sub) (rD X.K oSub) := by
  intro pins s σ H x y v u Q I rx ry ⟨O, d, e, z, t, hx, hy, hz, q⟩
  unfold oSub at hz
  split at hz
  · cases hz
    rw [rp_int hx] at rx
    rw [rp_int hy] at ry
    exact op_sub pins s σ H _ _ v u Q I rx ry ⟨_, _, rfl, rfl, q _ H (Same.refl H) (.int _)⟩
  · cases hz
theorem dRep {es : List Expr} {t : FA} {b : Expr} {g : FE} {pos p2 : Pos} (ha : PA X es (tDA X.K t)) (hb : PE X b (tD X.K g)) : PE X (.BinOp (.List es p2) .Mult b pos) (tD X.K (eRep t g)) :=
  (pe_op op_rep (pe_lst ha) hb).imp fun σ H Q ⟨O0, O, r, d, R, e, q⟩ => by
    unfold eRep at e
    obtain ⟨xs, exs, e⟩ := Option.bind_eq_some_iff.mp e
    obtain ⟨y, ey, e⟩ := Option.bind_eq_some_iff.mp e
    unfold oRep at e
    split at e
    · split at e
      · rename_i j hc
        cases e
        rw [Bool.and_eq_true, Bool.and_eq_true] at hc
        have h1 := of_decide_eq_true hc.1.1
        have h2 := of_decide_eq_true hc.1.2
        have h3 := of_decide_eq_true hc.2
        refine ⟨O0, O, r, xs, R, exs, fun vs H1 s1 r1 => ⟨by rw [r1.length]; exact Nat.le_trans h3 (by decide), fun p hp => ?_⟩⟩
        have R1 := (R.mn s1).mn (same_new (o := .lst vs) hp)
        refine ⟨O0, O, r, _, R1, ey, fun v H2 s2 r2 => ⟨p, j, vs, rfl, rp_int r2, s2 _ _ upd_same, by omega, by omega, ?_, fun l hl => ?_⟩⟩
        · rw [r1.length]
          have : xs.length * j.toNat ≤ 1000 * 1000 := Nat.mul_le_mul h3 (by omega)
          exact Nat.le_trans this (by decide)
        · refine q _ _ (((s1.trans (same_new hp)).trans s2).trans (same_new hl)) (rp_newL (R1.trk.mn s2) hl ?_)
          exact ((r1.mn (hide_same (same_new hp))).mn (hide_same s2)).rep _
      · cases e
    · cases e
theorem log2_of {n : Nat} (h : n < 2 ^ 250) : n.log2 < 250 := PySem.Flt.log2_lt_of (by decide) h
theorem opD_mul : OpR X (binaryOp .Mult) (rD X.K oMul) := by
  intro pins s σ H x y v u Q I rx ry ⟨O, d, e, z, t, hx, hy, hz, q⟩
  unfold oMul at hz
  split at hz
  · split at hz
    · rename_i hc
      cases hz
      rw [rp_int hx] at rx
      rw [rp_int hy] at ry
      unfold okMul at hc
      rw [Bool.and_eq_true] at hc
      have h1 := log2_of (of_decide_eq_true hc.1)
      have h2 := log2_of (of_decide_eq_true hc.2)
      refine op_mulW pins s σ H _ _ v u Q I rx ry ⟨_, _, rfl, rfl, ?_, q _ H (Same.refl H) (.int _)⟩
      unfold CMulW
      omega
    · cases hz
  · cases hz
theorem opD_div : OpR X (binaryOp .FloorDiv) (rD X.K oDiv) := by
  intro pins s σ H x y v u Q I rx ry ⟨O, d, e, z, t, hx, hy, hz, q⟩
  unfold oDiv at hz
  split at hz
  · split at hz
    · rename_i i j hc
      cases hz
      rw [rp_int hx] at rx
      rw [rp_int hy] at ry
      unfold okDiv at hc
      rw [Bool.and_eq_true] at hc
      have h1 := of_decide_eq_true hc.1
      have h2 := of_decide_eq_true hc.2
      have h3 : j.natAbs.log2 < 250 := log2_of (by omega)
      exact op_fdivW pins s σ H _ _ v u Q I rx ry ⟨_, _, rfl, rfl, ⟨h1, by omega⟩, q _ H (Same.refl H) (.int _)⟩
    · cases hz
  · cases hz
theorem opD_mod : OpR X (binaryOp .Mod) (rD X.K oMod) := by
  intro pins s σ H x y v u Q I rx ry ⟨O, d, e, z, t, hx, hy, hz, q⟩
  unfold oMod at hz
  split at hz
  · split at hz
    · rename_i i j hc
      cases hz
      rw [rp_int hx] at rx
      rw [rp_int hy] at ry
      exact op_mod pins s σ H _ _ v u Q I rx ry ⟨_, _, rfl, rfl, of_decide_eq_true hc, q _ H (Same.refl H) (.int _)⟩
    · cases hz
  · cases hz
theorem okShl_c {i j : Int} (h : okShl i j = true) : CPow i j := by
  unfold okShl at h
  rw [Bool.and_eq_true, Bool.and_eq_true] at h
  exact ⟨of_decide_eq_true h.1.1, Int.le_trans (of_decide_eq_true h.1.2) (by decide), of_decide_eq_true h.2⟩
theorem opD_pow : OpR X (binaryOp .Pow) (rD X.K oPow) := by
  intro pins s σ H x y v u Q I rx ry ⟨O, d, e, z, t, hx, hy, hz, q⟩
  unfold oPow at hz
  split at hz
  · split at hz
    · rename_i i j hc
      cases hz
      rw [rp_int hx] at rx
      rw [rp_int hy] at ry
      exact op_pow pins s σ H _ _ v u Q I rx ry ⟨_, _, rfl, rfl, okShl_c hc, q _ H (Same.refl H) (.int _)⟩
    · cases hz
  · cases hz
theorem opD_shl : OpR X (binaryOp .LShift) (rD X.K oShl) := by
  intro pins s σ H x y v u Q I rx ry ⟨O, d, e, z, t, hx, hy, hz, q⟩
  unfold oShl at hz
  split at hz
  · split at hz
    · rename_i i j hc
      cases hz
      rw [rp_int hx] at rx
      rw [rp_int hy] at ry
      exact op_shl pins s σ H _ _ v u Q I rx ry ⟨_, _, rfl, rfl, okShl_c hc, q _ H (Same.refl H) (.int _)⟩
    · cases hz
  · cases hz
theorem opD_shr : OpR X (binaryOp .RShift) (rD X.K oShr) := by
  intro pins s σ H x y v u Q I rx ry ⟨O, d, e, z, t, hx, hy, hz, q⟩
  unfold oShr at hz
  split at hz
  · split at hz
    · rename_i i j hc
      cases hz
      rw [rp_int hx] at rx
      rw [rp_int hy] at ry
      exact op_shr pins s σ H _ _ v u Q I rx ry ⟨_, _, rfl, rfl, of_decide_eq_true hc, q _ H (Same.refl H) (.int _)⟩
    · cases hz
  · cases hz
theorem opD_and : OpR X (binaryOp .BitAnd) (rD X.K oAnd) := by
  intro pins s σ H x y v u Q I rx ry ⟨O, d, e, z, t, hx, hy, hz, q⟩
  unfold oAnd at hz
  split at hz
  · cases hz
    rw [rp_int hx] at rx
    rw [rp_int hy] at ry
    exact op_and pins s σ H _ _ v u Q I rx ry ⟨_, _, rfl, rfl, q _ H (Same.refl H) (.int _)⟩
  · cases hz
theorem opD_lt : OpR X (compareOp .Lt) (rD X.K oLt) := by
  intro pins s σ H x y v u Q I rx ry ⟨O, d, e, z, t, hx, hy, hz, q⟩
  unfold oLt at hz
  split at hz
  · cases hz
    rw [rp_int hx] at rx
    rw [rp_int hy] at ry
    exact op_lt pins s σ H _ _ v u Q I rx ry ⟨_, _, rfl, rfl, q _ H (Same.refl H) (.bl _)⟩
  · cases hz
theorem opD_le : OpR X (compareOp .LtE) (rD X.K oLe) := by
  intro pins s σ H x y v u Q I rx ry ⟨O, d, e, z, t, hx, hy, hz, q⟩
  unfold oLe at hz
  split at hz
  · cases hz
    rw [rp_int hx] at rx
    rw [rp_int hy] at ry
    exact op_le pins s σ H _ _ v u Q I rx ry ⟨_, _, rfl, rfl, q _ H (Same.refl H) (.bl _)⟩
  · cases hz
theorem opD_gt : OpR X (compareOp .Gt) (rD X.K oGt) := by
  intro pins s σ H x y v u Q I rx ry ⟨O, d, e, z, t, hx, hy, hz, q⟩
  unfold oGt at hz
  split at hz
  · cases hz
    rw [rp_int hx] at rx
    rw [rp_int hy] at ry
    exact op_gt pins s σ H _ _ v u Q I rx ry ⟨_, _, rfl, rfl, q _ H (Same.refl H) (.bl _)⟩
  · cases hz
theorem opD_ge : OpR X (compareOp .GtE) (rD X.K oGe) := by
  intro pins s σ H x y v u Q I rx ry ⟨O, d, e, z, t, hx, hy, hz, q⟩
  unfold oGe at hz
  split at hz
  · cases hz
    rw [rp_int hx] at rx
    rw [rp_int hy] at ry
    exact op_ge pins s σ H _ _ v u Q I rx ry ⟨_, _, rfl, rfl, q _ H (Same.refl H) (.bl _)⟩
  · cases hz
theorem opD_eq (hu : X.A.units + 64 < cLine) : OpR X (compareOp .Eq) (rD X.K oEq) := by
  intro pins s σ H x y v u Q I rx ry ⟨O, d, e, z, t, hx, hy, hz, q⟩
  unfold oEq at hz
  split at hz
  · rename_i hc
    rw [Bool.and_eq_true] at hc
    cases hz
    exact op_eqD hu pins s σ H x y v u Q I rx ry ⟨d, e, Rp.dp d x (hx.mn hide_sub) (SeqAt.canLay_of_shaped hc.1), Rp.dp e y (hy.mn hide_sub) (SeqAt.canLay_of_shaped hc.2), hc.1, hc.2, q _ H (Same.refl H) (.bl _)⟩
  · cases hz
theorem opD_ne (hu : X.A.units + 64 < cLine) : OpR X (compareOp .NotEq) (rD X.K oNe) := by
  intro pins s σ H x y v u Q I rx ry ⟨O, d, e, z, t, hx, hy, hz, q⟩
  unfold oNe at hz
  split at hz
  · rename_i hc
    rw [Bool.and_eq_true] at hc
    cases hz
    exact op_neD hu pins s σ H x y v u Q I rx ry ⟨d, e, Rp.dp d x (hx.mn hide_sub) (SeqAt.canLay_of_shaped hc.1), Rp.dp e y (hy.mn hide_sub) (SeqAt.canLay_of_shaped hc.2), hc.1, hc.2, q _ H (Same.refl H) (.bl _)⟩
  · cases hz
theorem rp_flatV {K : PySem.W.Frag} {H : Hp} {v : V} {d : Dt} (h : Rp K H v d) (f : flatD d = true) : flatV v = true := by
  cases h <;> first | rfl | cases f
theorem rpAll_flatV {K : PySem.W.Frag} {H : Hp} : ∀ {vs : List V} {ds : List Dt}, RpAll K H vs ds → ds.all flatD = true → vs.all flatV = true
  | _, _, .nil, _ => rfl
  | _, _, .cons h t, f => by
    rw [List.all_cons, Bool.and_eq_true] at f ⊢
    exact ⟨rp_flatV h f.1, rpAll_flatV t f.2⟩
theorem rp_eqV {K : PySem.W.Frag} {H H' : Hp} {v w : V} {d e : Dt} (h : Rp K H v d) (k : Rp K H' w e) (f : flatD d = true) (g : flatD e = true) : eqV v w = PyData.eqv d e := by
  cases h <;> first | (cases f; done) | (cases k <;> first | (cases g; done) | simp [eqV, PyData.eqv])
theorem rp_inV {K : PySem.W.Frag} {H H' : Hp} {v : V} {d : Dt} (k : Rp K H' v d) (g : flatD d = true) : ∀ {vs : List V} {ds : List Dt}, RpAll K H vs ds → ds.all flatD = true → inV v vs = inD d ds
  | _, _, .nil, _ => rfl
  | _, _, .cons h t, f => by
    rw [List.all_cons, Bool.and_eq_true] at f
    have ih := rp_inV k g t f.2
    unfold inV inD at ih ⊢
    rw [List.any_cons, List.any_cons, ih, rp_eqV h k f.1 g]
theorem opD_in : OpR X (compareOp .In) (rD X.K oIn) := by
  intro pins s σ H x y v u Q I rx ry ⟨O, d, e, z, t, hx, hy, hz, q⟩
  unfold oIn at hz
  split at hz
  · split at hz
    · rename_i hc
      rw [Bool.and_eq_true] at hc
      cases hz
      cases hy with
      | lst hy ay =>
        refine op_in_seq pins s σ H x _ v u Q I rx ry ⟨_, _, rfl, .inl (hl hy), rp_flatV hx hc.1, rpAll_flatV ay hc.2, ?_⟩
        rw [if_neg Bool.false_ne_true, rp_inV hx hc.1 ay hc.2]
        exact q _ H (Same.refl H) (.bl _)
    · cases hz
  · split at hz
    · rename_i hc
      rw [Bool.and_eq_true] at hc
      cases hz
      cases hy with
      | tup hy ay =>
        refine op_in_seq pins s σ H x _ v u Q I rx ry ⟨_, _, rfl, .inr (same_t hide_sub hy), rp_flatV hx hc.1, rpAll_flatV ay hc.2, ?_⟩
        rw [if_neg Bool.false_ne_true, rp_inV hx hc.1 ay hc.2]
        exact q _ H (Same.refl H) (.bl _)
    · cases hz
  · cases hz
theorem opD_notIn : OpR X (compareOp .NotIn) (rD X.K oNotIn) := by
  intro pins s σ H x y v u Q I rx ry ⟨O, d, e, z, t, hx, hy, hz, q⟩
  unfold oNotIn at hz
  split at hz
  · split at hz
    · rename_i hc
      rw [Bool.and_eq_true] at hc
      cases hz
      cases hy with
      | lst hy ay =>
        refine op_notIn_seq pins s σ H x _ v u Q I rx ry ⟨_, _, rfl, .inl (hl hy), rp_flatV hx hc.1, rpAll_flatV ay hc.2, ?_⟩
        rw [if_pos rfl, rp_inV hx hc.1 ay hc.2]
        exact q _ H (Same.refl H) (.bl _)
    · cases hz
  · split at hz
    · rename_i hc
      rw [Bool.and_eq_true] at hc
      cases hz
      cases hy with
      | tup hy ay =>
        refine op_notIn_seq pins s σ H x _ v u Q I rx ry ⟨_, _, rfl, .inr (same_t hide_sub hy), rp_flatV hx hc.1, rpAll_flatV ay hc.2, ?_⟩
        rw [if_pos rfl, rp_inV hx hc.1 ay hc.2]
        exact q _ H (Same.refl H) (.bl _)
    · cases hz
  · cases hz
/-! subscripts, slices, signs -/
theorem atD_V {K : PySem.W.Frag} {H : Hp} {vs : List V} {ds : List Dt} {i : Int} {d : Dt} (a : RpAll K H vs ds) (h : atD ds i = some d) : ∃ v, atI vs i = some v ∧ Rp K H v d := by
  have hl := a.length
  unfold atD at h
  unfold atI ixN
  by_cases h0 : 0 ≤ i
  · rw [if_pos h0] at h ⊢
    obtain ⟨v, e, r⟩ := a.get h
    have hlt := (List.getElem?_eq_some_iff.mp e).1
    rw [if_pos (by omega)]
    exact ⟨v, e, r⟩
  · rw [if_neg h0] at h ⊢
    by_cases h1 : -(ds.length : Int) ≤ i
    · rw [if_pos h1] at h
      rw [if_pos (by omega)]
      obtain ⟨v, e, r⟩ := a.get h
      exact ⟨v, by rw [hl]; exact e, r⟩
    · rw [if_neg h1] at h; cases h
theorem ixD : IxR X (rD X.K oIx) := by
  intro value slice pins s σ H x y v u Q I rx ry ⟨O, d, e, z, t, hx, hy, hz, q⟩ hs
  unfold oIx at hz
  split at hz
  · cases hx with
    | lst hx ax =>
      obtain ⟨w, hw, rw'⟩ := atD_V ax hz
      rw [rp_int hy] at ry
      exact ix_list value slice pins s σ H _ _ v u Q I rx ry ⟨_, _, _, w, rfl, rfl, hl hx, hw, q w H (Same.refl H) rw'⟩ hs
  · cases hx with
    | tup hx ax =>
      obtain ⟨w, hw, rw'⟩ := atD_V ax hz
      rw [rp_int hy] at ry
      exact ix_tup value slice pins s σ H _ _ v u Q I rx ry ⟨_, _, _, w, rfl, rfl, same_t hide_sub hx, hw, q w H (Same.refl H) rw'⟩ hs
  · cases hz
theorem dIx {a b : Expr} {f g : FE} {pos : Pos} (ha : PE X a (tD X.K f)) (hb : PE X b (tD X.K g)) (hs : PlainIx b := by exact fun _ _ => rfl) : PE X (.Subscript a b pos) (tD X.K (eOp oIx f g)) :=
  (pe_ix ixD ha hb hs).imp fun _ _ _ q => tD_op (fun _ _ _ _ z => z) q
theorem tD_un {r : V → Hp → VK → Prop} {o : Dt → Option Dt} {f : FE} (i : ∀ x H Q, uD X.K o x H Q → r x H Q) {σ : L2.St} {H : Hp} {Q : VK} (q : tD X.K (eUn o f) σ H Q) : tUn r (tD X.K f) σ H Q := by
  obtain ⟨O0, O, r, d, R, e, q⟩ := q
  unfold eUn at e
  obtain ⟨x, ex, e⟩ := Option.bind_eq_some_iff.mp e
  exact ⟨O0, O, r, x, R, ex, fun v H1 s1 r1 => i _ _ _ ⟨O, x, d, R.trk.mn s1, r1, e, fun z H3 s3 r3 => q z H3 (s1.trans s3) r3⟩⟩
theorem dNeg {a : Expr} {f : FE} {pos : Pos} (ha : PE X a (tD X.K f)) : PE X (.UnaryOp .USub a pos) (tD X.K (eUn oNeg f)) :=
  (pe_un un_neg ha).imp fun _ _ _ q => tD_un (fun x H Q ⟨O, d, z, t, hx, hz, q⟩ => by
    unfold oNeg at hz
    split at hz
    · cases hz
      rw [rp_int hx]
      exact ⟨_, rfl, q _ H (Same.refl H) (.int _)⟩
    · cases hz) q
theorem cutD_V {K : PySem.W.Frag} {H : Hp} {vs : List V} {ds : List Dt} {lo hi : Option Int} (a : RpAll K H vs ds) : RpAll K H (cutV vs lo hi) (cutD ds lo hi) := by
  have e : ∀ n d o, HT.sIx n d o = BL.sIx n d o := fun n d o => by cases o <;> rfl
  unfold cutV cutD
  rw [e, e, a.length]
  exact (a.drop _).take _
theorem cutD_all {ds : List Dt} {lo hi : Option Int} (h1 : BL.sIx ds.length 0 lo = 0) (h2 : BL.sIx ds.length ds.length hi = ds.length) : cutD ds lo hi = ds := by
  unfold cutD
  rw [h1, h2]
  simp
theorem slD (lo hi : Option Int) : SlR X (fun x l h H Q => l = lo ∧ h = hi ∧ uD X.K (oSlice lo hi) x H Q) := by
  intro pins s σ H x v vl vu l h sl Q I rx hs pl pu ⟨el, eh, O, d, z, t, hx, hz, q⟩
  subst el eh
  have e : ∀ n d o, HT.sIx n d o = BL.sIx n d o := fun n d o => by cases o <;> rfl
  unfold oSlice at hz
  split at hz
  · cases hz
    cases hx with
    | lst hx ax =>
      exact sl_list pins s σ H _ v vl vu l h sl Q I rx hs pl pu ⟨_, _, rfl, hl hx, fun p hp => q _ _ (same_new hp) (rp_newL t hp (cutD_V ax))⟩
  · cases hz
    cases hx with
    | tup hx ax =>
      refine sl_tupA pins s σ H _ v vl vu l h sl Q I rx hs pl pu ⟨_, _, rfl, same_t hide_sub hx, fun ⟨h1, h2⟩ => ?_, fun _ p hp => q _ _ (same_new hp) (rp_newT t hp (cutD_V ax))⟩
      rw [e, ax.length] at h1
      rw [e, ax.length] at h2
      rw [cutD_all h1 h2] at q
      exact q _ H (Same.refl H) (.tup hx ax)
  · cases hz
/-- a part of a slice: a written int, or left out -/
structure POw (X : Cx) (e : Option Expr) (o : Option Int) : Prop where
  run : PO X e (fun _ H Q => Q o H)
theorem pow_none : POw X none none := ⟨po_none⟩
theorem pow_int {i : Int} {j pos} : POw X (some (.Constant (.int i) j pos)) (some i) := ⟨⟨fun pins s σ H Q I h => (po_some (pe_int (X := X) (i := i) (j := j) (pos := pos))).run pins s σ H Q I ⟨i, rfl, h⟩⟩⟩
theorem dSlice {a : Expr} {f : FE} {pos p2 : Pos} {lo hi : Option Expr} {l h : Option Int} (ha : PE X a (tD X.K f)) (hl : POw X lo l) (hh : POw X hi h) : PE X (.Subscript a (.Slice lo hi none p2) pos) (tD X.K (eUn (oSlice l h) f)) :=
  (pe_slice (slD l h) ha hl.run hh.run).imp fun σ H Q q => by
    obtain ⟨O0, O, r, d, R, e, q⟩ := q
    unfold eUn at e
    obtain ⟨x, ex, e⟩ := Option.bind_eq_some_iff.mp e
    exact ⟨O0, O, r, x, R, ex, fun v H1 s1 r1 => ⟨rfl, rfl, O, x, d, R.trk.mn s1, r1, e, fun z H3 s3 r3 => q z H3 (s1.trans s3) r3⟩⟩

/-! ### builtins -/
theorem rpAll1 {K : PySem.W.Frag} {H : Hp} {xs : List V} {d : Dt} (h : RpAll K H xs [d]) : ∃ x, xs = [x] ∧ Rp K H x d := by
  cases h with
  | cons a t => cases t; exact ⟨_, rfl, a⟩
theorem rpAll2 {K : PySem.W.Frag} {H : Hp} {xs : List V} {d e : Dt} (h : RpAll K H xs [d, e]) : ∃ x y, xs = [x, y] ∧ Rp K H x d ∧ Rp K H y e := by
  cases h with
  | cons a t =>
    cases t with
    | cons b t => cases t; exact ⟨_, _, rfl, a, b⟩
theorem callD_abs : CallR X (.builtin "abs") (cD X.K (c1 oAbs)) := by
  intro pins s σ H xs us Q I r ⟨O, ds, z, t, hx, hz, q⟩
  unfold c1 oAbs at hz
  split at hz
  · split at hz
    · cases hz
      obtain ⟨x, rfl, rx⟩ := rpAll1 hx
      cases rx
      exact call_abs pins s σ H _ us Q I r ⟨_, rfl, q _ H (Same.refl H) (.int _)⟩
    · cases hz
  · cases hz
theorem callD_max2 (hc : X.calm = true) : CallR X (.builtin "max") (cD X.K (c2 oMax2)) := by
  intro pins s σ H xs us Q I r ⟨O, ds, z, t, hx, hz, q⟩
  unfold c2 oMax2 at hz
  split at hz
  · split at hz
    · cases hz
      obtain ⟨x, y, rfl, rx, ry⟩ := rpAll2 hx
      cases rx
      cases ry
      exact call_max2 hc pins s σ H _ us Q I r ⟨_, _, rfl, q _ H (Same.refl H) (.int _)⟩
    · cases hz
  · cases hz
theorem callD_min2 (hc : X.calm = true) : CallR X (.builtin "min") (cD X.K (c2 oMin2)) := by
  intro pins s σ H xs us Q I r ⟨O, ds, z, t, hx, hz, q⟩
  unfold c2 oMin2 at hz
  split at hz
  · split at hz
    · cases hz
      obtain ⟨x, y, rfl, rx, ry⟩ := rpAll2 hx
      cases rx
      cases ry
      exact call_min2 hc pins s σ H _ us Q I r ⟨_, _, rfl, q _ H (Same.refl H) (.int _)⟩
    · cases hz
  · cases hz
theorem callD_len : CallR X (.builtin "len") (cD X.K (c1 oLen)) := by
  intro pins s σ H xs us Q I r ⟨O, ds, z, t, hx, hz, q⟩
  unfold c1 oLen at hz
  split at hz
  · split at hz
    · cases hz
      obtain ⟨x, rfl, rx⟩ := rpAll1 hx
      cases rx with
      | lst hx' ax =>
        refine call_len_seq pins s σ H _ us Q I r ⟨_, _, rfl, .inl (hl hx'), ?_⟩
        rw [ax.length]
        exact q _ H (Same.refl H) (.int _)
    · cases hz
      obtain ⟨x, rfl, rx⟩ := rpAll1 hx
      cases rx with
      | tup hx' ax =>
        refine call_len_seq pins s σ H _ us Q I r ⟨_, _, rfl, .inr (same_t hide_sub hx'), ?_⟩
        rw [ax.length]
        exact q _ H (Same.refl H) (.int _)
    · cases hz
  · cases hz
theorem callD_int : CallR X (.type "int") (cD X.K (c1 oInt)) := by
  intro pins s σ H xs us Q I r ⟨O, ds, z, t, hx, hz, q⟩
  unfold c1 oInt at hz
  split at hz
  · split at hz
    · cases hz
      obtain ⟨x, rfl, rx⟩ := rpAll1 hx
      cases rx
      exact call_int1 pins s σ H _ us Q I r (.inl ⟨_, rfl, q _ H (Same.refl H) (.int _)⟩)
    · cases hz
      obtain ⟨x, rfl, rx⟩ := rpAll1 hx
      cases rx
      exact call_int1 pins s σ H _ us Q I r (.inr ⟨_, rfl, q _ H (Same.refl H) (.int _)⟩)
    · cases hz
  · cases hz
theorem callD_list : CallR X (.type "list") (cD X.K (c1 oList)) := by
  intro pins s σ H xs us Q I r ⟨O, ds, z, t, hx, hz, q⟩
  unfold c1 oList at hz
  split at hz
  · split at hz
    · cases hz
      obtain ⟨x, rfl, rx⟩ := rpAll1 hx
      cases rx with
      | lst hx' ax =>
        exact call_list_of pins s σ H _ us Q I r ⟨_, _, rfl, .inl (hl hx'), fun l hl => q _ _ (same_new hl) (rp_newL t hl ax)⟩
    · cases hz
      obtain ⟨x, rfl, rx⟩ := rpAll1 hx
      cases rx with
      | tup hx' ax =>
        exact call_list_of pins s σ H _ us Q I r ⟨_, _, rfl, .inr (same_t hide_sub hx'), fun l hl => q _ _ (same_new hl) (rp_newL t hl ax)⟩
    · cases hz
  · cases hz
/-- isinstance(x, k), k a built-in class -/
theorem kit_kind (d : Dt) (k : String) (hk : k = "int" ∨ k = "bool" ∨ k = "str" ∨ k = "tuple" ∨ k = "list") : kitB (kindD d) k = some (isD k d) := by
  have e : ∀ n ∈ ["NoneType", "bool", "int", "str", "list", "tuple", "dict"], ∀ k ∈ ["int", "bool", "str", "tuple", "list"], kitB n k = some (n == k || (k == "int" && n == "bool")) := by decide +kernel
  exact e (kindD d) (by cases d <;> simp [kindD]) k (by simpa using hk)
theorem rp_ty {K : PySem.W.Frag} {H : Hp} {v : V} {d : Dt} (h : Rp K H v d) : TyX K H v (.type (kindD d)) := by
  cases h with
  | non => exact .base .non
  | bl b => exact .base (.bl b)
  | int i => exact .base (.int i)
  | str x => exact .base (.str x)
  | lst hs _ =>
    rcases hs with h | ⟨o, h⟩
    · exact .base (.lst h)
    · exact .base (.frz h)
  | tup hs _ =>
    rcases hs with (h | ⟨o, h⟩) | ⟨o, its, n, h, c, _⟩
    · exact .base (.tup h)
    · exact .fTuple h
    · exact .kTuple h c
  | dk0 h => exact .base (.dK h)
theorem dIs {a : Expr} {f : FE} {k : String} {n : Str} {p q pos : Pos} (hg : Gl X "isinstance") (hm : X.mg "isinstance" = none) (hgn : Gl X n) (hmn : X.mg n = none) (hb : bootBuiltins n = some (.type k)) (hk : k = "int" ∨ k = "bool" ∨ k = "str" ∨ k = "tuple" ∨ k = "list")
    (ha : PE X a (tD X.K f)) (hn : n ≠ "__name__" := by decide) (hd : (n == ("__debug__" : Str)) = false := by decide)
    (he : starEach (a :: [.Name n q]) X.env = (false, eval a X.env) :: starEach [.Name n q] X.env := by rfl) (he2 : starEach [.Name n q] X.env = [(false, eval (.Name n q) X.env)] := by rfl) : PE X (.Call (.Name "isinstance" p) [a, .Name n q] [] pos) (tD X.K (eUn (oIs k) f)) :=
  (pe_callB call_isi hg hm (by decide +kernel) (pa_cons ha (pa_cons (pe_bltn (v := .ty k) hgn hmn hb rfl hn hd) pa_nil he2) he) (by decide) (by decide) he (by rw [he2]; rfl)).imp fun σ H Q q => by
    obtain ⟨O0, O, r, d, R, e, q⟩ := q
    unfold eUn oIs at e
    obtain ⟨x, ex, e⟩ := Option.bind_eq_some_iff.mp e
    cases e
    refine ⟨O0, O, r, x, R, ex, fun v H1 s1 r1 => ?_⟩
    exact ⟨v, .ty k, _, _, isD k x, rfl, .ty k, rp_ty (r1.mn hide_sub), kit_ty (kit_kind x k hk), q _ H1 s1 (.bl _)⟩
end
end BL

set_option Elab.async false
set_option linter.all false
set_option maxRecDepth 100000
namespace BL
open PySem PySem.Spec PyProof.Rows L2

/-! ### targets -/
/-- what a target does to the environment; outside the slots of is nothing is stored -/
def tgD (K : PySem.W.Frag) (g : TGD) (is : List Nat) : TG := fun v σ H Q => ∃ O0 O r d r', RepE K O0 O σ H r ∧ Rp K (hide O H) v d ∧ g d r = some r' ∧ ∀ σ', RepE K O0 O σ' H r' → (∀ vs, (∀ i ∈ is, i ∈ vs) → L2.wipe σ' vs = L2.wipe σ vs) → Q σ' H
def tgsD (K : PySem.W.Frag) (is : List Nat) : TGs := fun vs σ H Q => ∃ O0 O r ds, RepE K O0 O σ H r ∧ RpAll K (hide O H) vs ds ∧ ds.length = is.length ∧
  ∀ σ', RepE K O0 O σ' H ((is.zip ds).foldl (fun r p => r.set p.1 (some (.d p.2))) r) → (∀ vs, (∀ i ∈ is, i ∈ vs) → L2.wipe σ' vs = L2.wipe σ vs) → Q σ' H
theorem wipe_set {σ : L2.St} {i : Nat} {x : Option V} : ∀ {vs : List Nat}, i ∈ vs → L2.wipe (σ.set i x) vs = L2.wipe σ vs
  | [], h => by cases h
  | v :: vs, h => by
    unfold L2.wipe
    by_cases e : i = v
    · subst e
      by_cases m : i ∈ vs
      · rw [wipe_set m]
      · have : ∀ (ws : List Nat), i ∉ ws → L2.wipe (σ.set i x) ws = (L2.wipe σ ws).set i x := by
          intro ws
          induction ws with
          | nil => intro _; rfl
          | cons w ws ih =>
            intro hw
            unfold L2.wipe
            rw [ih (fun z => hw (List.mem_cons_of_mem _ z)), List.set_comm _ _ (fun z => hw (by rw [z]; exact List.mem_cons_self))]
        rw [this vs m, List.set_set]
    · have m : i ∈ vs := by
        rcases List.mem_cons.mp h with z | z
        · exact absurd z e
        · exact z
      rw [wipe_set m]
theorem wipe_idem (σ : L2.St) : ∀ (vs ws : List Nat), (∀ i ∈ vs, i ∈ ws) → L2.wipe (L2.wipe σ vs) ws = L2.wipe σ ws
  | [], _, _ => rfl
  | v :: vs, ws, h => by
    show L2.wipe ((L2.wipe σ vs).set v none) ws = L2.wipe σ ws
    rw [wipe_set (h v List.mem_cons_self), wipe_idem σ vs ws fun i m => h i (List.mem_cons_of_mem _ m)]
section
variable {X : Cx} {pos : Pos}
theorem gNm_ {i : Nat} {x : Str} (h : PG X (.Name x pos) (gName i)) : PG X (.Name x pos) (tgD X.K (gNm i) [i]) := h.imp fun v σ H Q ⟨O0, O, r, d, r', R, rv, e, q⟩ => by
  cases e
  exact q _ (R.set rv) fun vs hi => wipe_set (hi i List.mem_cons_self)
theorem gNil_ : PGs X [] (tgsD X.K []) := by
  refine ⟨fun pins s σ H vs us Q I r h => ?_⟩
  obtain ⟨O0, O, e, ds, R, ra, hl, q⟩ := h
  have hd : ds = [] := List.length_eq_zero_iff.mp hl
  subst hd
  cases ra
  exact pgs_nil.run pins s σ H [] us Q I r ⟨rfl, q σ R fun _ _ => rfl⟩
theorem gCons_ {e : Expr} {es : List Expr} {i : Nat} {is : List Nat} (h1 : PG X e (gName i)) (h2 : PGs X es (tgsD X.K is)) (hs : (assignEach (e :: es) X.env).map (·.2) = assign e X.env :: (assignEach es X.env).map (·.2) := by rfl) : PGs X (e :: es) (tgsD X.K (i :: is)) := by
  refine ⟨fun pins s σ H vs us Q I r h => ?_⟩
  obtain ⟨O0, O, en, ds, R, ra, hl, q⟩ := h
  cases ra with
  | nil => cases hl
  | @cons v vs d ds rv rr =>
    refine (pgs_cons h1 h2 hs).run pins s σ H _ us Q I r ⟨v, vs, rfl, ?_⟩
    show tgsD X.K is vs (σ.set i (some v)) H Q
    refine ⟨O0, O, _, ds, R.set rv, rr, by simpa using hl, fun σ' R' w => q σ' R' fun ws hw => ?_⟩
    rw [w ws fun j hj => hw j (List.mem_cons_of_mem _ hj), wipe_set (hw i List.mem_cons_self)]
theorem gTp_ {es : List Expr} {k : Nat} {is : List Nat} (hc : X.calm = true) (h : PGs X es (tgsD X.K is)) (hn : (assignEach es X.env).length = is.length := by rfl) (hst : (assignEach es X.env).findIdx? (·.1) = none := by rfl) : PG X (.Tuple es k pos) (tgD X.K (gTp is) is) :=
  (pg_tup (n := is.length) hc h hn hst).imp fun v σ H Q ⟨O0, O, r, d, r', R, rv, e, q⟩ => by
    unfold gTp at e
    split at e
    · split at e
      · rename_i hl
        cases e
        cases rv with
        | tup hs ha => exact ⟨_, _, rfl, same_t hide_sub hs, by rw [ha.length, hl], O0, O, r, _, R, ha, hl, q⟩
      · cases e
    · cases e
end

/-! ### what is walked -/
/-- J yields the items of xs in their order, from the state (O, H) on -/
def Walks (K : PySem.W.Frag) (J : It) (O : List Addr) (H : Hp) (xs : List Dt) : Prop := ∀ i O2 H2, Later [] O H O2 H2 → Trk O2 H2 →
  (xs.length ≤ i → J.stop i H2) ∧ (i < xs.length → J.go i H2 ∧ ∀ x H3, J.yld i H2 x H3 → Same H2 H3 ∧ ∀ d, xs[i]? = some d → Rp K (hide O2 H3) x d)
def iD (K : PySem.W.Frag) (f : FA) : TI := fun σ H R => ∃ O0 O r xs, RepE K O0 O σ H r ∧ f r = some xs ∧ ∀ J H', Same H H' → Walks K J O H' xs → R J H'
theorem walks_list {K : PySem.W.Frag} {O : List Addr} {H : Hp} {a : Addr} {vs : List V} {xs : List Dt} (h : Rd (hide O H) a (.lst vs)) (ha : RpAll K (hide O H) vs xs) : Walks K (Itl K a) O H xs := fun i O2 H2 L t => by
  have q : SqL K H2 a vs := .inl (same_rd hide_sub (same_rd L.hide h))
  have hl := ha.length
  refine ⟨fun hi => ⟨vs, q, by omega⟩, fun hi => ⟨⟨vs, vs[i]'(by omega), q, by simp [hl, hi]⟩, fun x H3 y => ?_⟩⟩
  obtain ⟨e, y⟩ := y
  subst e
  refine ⟨Same.refl _, fun d hd => ?_⟩
  obtain ⟨v, h1, h2⟩ := ha.get hd
  have := y vs q
  rw [h1] at this
  cases this
  exact h2.mn L.hide
theorem walks_tup {K : PySem.W.Frag} {O : List Addr} {H : Hp} {a : Addr} {vs : List V} {xs : List Dt} (h : SqT K (hide O H) a vs) (ha : RpAll K (hide O H) vs xs) : Walks K (Itt K a) O H xs := fun i O2 H2 L t => by
  have q : SqT K H2 a vs := same_t hide_sub (same_t L.hide h)
  have hl := ha.length
  refine ⟨fun hi => ⟨vs, q, by omega⟩, fun hi => ⟨⟨vs, vs[i]'(by omega), q, by simp [hl, hi]⟩, fun x H3 y => ?_⟩⟩
  obtain ⟨e, y⟩ := y
  subst e
  refine ⟨Same.refl _, fun d hd => ?_⟩
  obtain ⟨v, h1, h2⟩ := ha.get hd
  have := y vs q
  rw [h1] at this
  cases this
  exact h2.mn L.hide
theorem rngD_len (lo : Int) (n : Nat) : (rngD lo n).length = n := by unfold rngD; simp
theorem rngU_len (lo : Int) (n : Nat) : (rngU lo n).length = n := by unfold rngU; simp
theorem walks_rng {K : PySem.W.Frag} {O : List Addr} {H : Hp} {lo : Int} {n : Nat} : Walks K (Itr lo n) O H (rngD lo n) := fun i O2 H2 L t => by
  rw [rngD_len]
  refine ⟨fun hi => hi, fun hi => ⟨hi, fun x H3 y => ?_⟩⟩
  obtain ⟨e, y⟩ := y
  subst e y
  refine ⟨Same.refl _, fun d hd => ?_⟩
  unfold rngD at hd
  simp [hi] at hd
  subst hd
  exact .int _
theorem walks_rngC {K : PySem.W.Frag} {O : List Addr} {H : Hp} {lo : Int} {n : Nat} : Walks K (Itc lo (-1) n) O H (rngU lo n) := fun i O2 H2 L t => by
  rw [rngU_len]
  refine ⟨fun hi => hi, fun hi => ⟨hi, fun x H3 y => ?_⟩⟩
  obtain ⟨e, y⟩ := y
  subst e y
  refine ⟨Same.refl _, fun d hd => ?_⟩
  unfold rngU at hd
  simp [hi] at hd
  subst hd
  have e1 : lo + -(i : Int) = lo + (i : Int) * (-1) := by omega
  rw [e1]
  exact .int _
theorem enumD_len : ∀ (k : Nat) (xs : List Dt), (enumD k xs).length = xs.length
  | _, [] => rfl
  | k, x :: xs => by unfold enumD; rw [List.length_cons, List.length_cons, enumD_len]
theorem enumD_get : ∀ (k : Nat) (xs : List Dt) (i : Nat) (x : Dt), xs[i]? = some x → (enumD k xs)[i]? = some (.tuple [.int ((k + i : Nat) : Int), x])
  | _, [], i, x, h => by simp at h
  | k, y :: xs, 0, x, h => by simp at h; subst h; rfl
  | k, y :: xs, i + 1, x, h => by
    unfold enumD
    rw [List.getElem?_cons_succ] at h ⊢
    rw [enumD_get (k + 1) xs i x h]
    have : k + 1 + i = k + (i + 1) := by omega
    rw [this]
theorem walks_enum {K : PySem.W.Frag} {O : List Addr} {H : Hp} {a : Addr} {vs : List V} {xs : List Dt} (h : Rd (hide O H) a (.lst vs)) (ha : RpAll K (hide O H) vs xs) : Walks K (Ite K a) O H (enumD 0 xs) := fun i O2 H2 L t => by
  have q : SqL K H2 a vs := .inl (same_rd hide_sub (same_rd L.hide h))
  have hl := ha.length
  rw [enumD_len]
  refine ⟨fun hi => ⟨vs, q, by omega⟩, fun hi => ⟨⟨vs, vs[i]'(by omega), q, by simp [hl, hi]⟩, fun x H3 y => ?_⟩⟩
  obtain ⟨T, v, e1, hT, e2, y⟩ := y
  subst e1 e2
  refine ⟨same_new hT, fun d hd => ?_⟩
  have hx : xs[i]? = some xs[i] := by simp [hi]
  rw [enumD_get 0 xs i _ hx] at hd
  cases hd
  obtain ⟨w, h1, h2⟩ := ha.get hx
  have := y vs q
  rw [h1] at this
  cases this
  refine rp_newT t hT (.cons ?_ (.cons (h2.mn L.hide) .nil))
  rw [Nat.zero_add]
  exact .int _
theorem zipD_len : ∀ (xs ys : List Dt), (zipD xs ys).length = min xs.length ys.length
  | [], ys => by cases ys <;> simp [zipD]
  | x :: xs, [] => by simp [zipD]
  | x :: xs, y :: ys => by unfold zipD; rw [List.length_cons, zipD_len, List.length_cons, List.length_cons]; omega
theorem zipD_get : ∀ (xs ys : List Dt) (i : Nat) (x y : Dt), xs[i]? = some x → ys[i]? = some y → (zipD xs ys)[i]? = some (.tuple [x, y])
  | [], _, i, x, y, h, _ => by simp at h
  | _ :: _, [], i, x, y, _, h => by simp at h
  | a :: xs, b :: ys, 0, x, y, h, k => by simp at h k; subst h k; rfl
  | a :: xs, b :: ys, i + 1, x, y, h, k => by
    unfold zipD
    rw [List.getElem?_cons_succ] at h k ⊢
    exact zipD_get xs ys i x y h k
theorem walks_zip {K : PySem.W.Frag} {O : List Addr} {H : Hp} {a b : Addr} {vs ws : List V} {xs ys : List Dt} (h : Rd (hide O H) a (.lst vs)) (ha : RpAll K (hide O H) vs xs) (h' : Rd (hide O H) b (.lst ws)) (hb : RpAll K (hide O H) ws ys) : Walks K (Itz K a b) O H (zipD xs ys) := fun i O2 H2 L t => by
  have q : SqL K H2 a vs := .inl (same_rd hide_sub (same_rd L.hide h))
  have q' : SqL K H2 b ws := .inl (same_rd hide_sub (same_rd L.hide h'))
  have hl := ha.length
  have hl' := hb.length
  rw [zipD_len]
  refine ⟨fun hi => ⟨vs, ws, q, q', by omega⟩, fun hi => ⟨⟨vs, ws, vs[i]'(by omega), ws[i]'(by omega), q, q', by simp, by simp⟩, fun x H3 y => ?_⟩⟩
  obtain ⟨T, v, w, e1, hT, e2, y1, y2⟩ := y
  subst e1 e2
  refine ⟨same_new hT, fun d hd => ?_⟩
  have hx : xs[i]? = some (xs[i]'(by omega)) := by simp
  have hy : ys[i]? = some (ys[i]'(by omega)) := by simp
  rw [zipD_get xs ys i _ _ hx hy] at hd
  cases hd
  obtain ⟨v1, h1, h2⟩ := ha.get hx
  obtain ⟨v2, h3, h4⟩ := hb.get hy
  have z1 := y1 vs q
  have z2 := y2 ws q'
  rw [h1] at z1
  rw [h3] at z2
  cases z1
  cases z2
  exact rp_newT t hT (.cons (h2.mn L.hide) (.cons (h4.mn L.hide) .nil))

section
variable {X : Cx} {tg a b c : Expr} {f g : FE} {pos : Pos}
theorem wList (h : PE X a (tD X.K f)) : PI X tg a (iD X.K (BL.iList f)) := (pi_list h).imp fun σ H R ⟨O0, O, r, xs, E, e, q⟩ => by
  unfold BL.iList at e
  obtain ⟨x, ex, e⟩ := Option.bind_eq_some_iff.mp e
  split at e
  · cases e
    refine ⟨O0, O, r, _, E, ex, fun v H1 s1 r1 => ?_⟩
    cases r1 with
    | lst hs ha => exact ⟨_, rfl, ⟨_, hl hs⟩, q _ H1 s1 (walks_list hs ha)⟩
  · cases e
theorem wTup (h : PE X a (tD X.K f)) : PI X tg a (iD X.K (BL.iTup f)) := (pi_tup h).imp fun σ H R ⟨O0, O, r, xs, E, e, q⟩ => by
  unfold BL.iTup at e
  obtain ⟨x, ex, e⟩ := Option.bind_eq_some_iff.mp e
  split at e
  · cases e
    refine ⟨O0, O, r, _, E, ex, fun v H1 s1 r1 => ?_⟩
    cases r1 with
    | tup hs ha => exact ⟨_, rfl, ⟨_, same_t hide_sub hs⟩, q _ H1 s1 (walks_tup hs ha)⟩
  · cases e
theorem okRng_ {i : Int} (h : okRng i = true) : -(2 ^ 62) ≤ i ∧ i < 2 ^ 62 := by
  have h' : i.natAbs ≤ 1000000 := Nat.le_of_ble_eq_true h
  omega
theorem wRng1 {p : Pos} (hg : Gl X "range") (hm : X.mg "range" = none) (h : PE X a (tD X.K f)) (hs : starEach [a] X.env = [(false, eval a X.env)] := by rfl) : PI X tg (.Call (.Name "range" p) [a] [] pos) (iD X.K (BL.iRng1 f)) :=
  (pi_range1 hg hm (pa_cons h pa_nil hs) hs).imp fun σ H R ⟨O0, O, r, xs, E, e, q⟩ => by
    unfold BL.iRng1 at e
    obtain ⟨x, ex, e⟩ := Option.bind_eq_some_iff.mp e
    split at e
    · split at e
      · rename_i hk
        cases e
        refine ⟨O0, O, r, _, E, ex, fun v H1 s1 r1 => ?_⟩
        cases r1
        exact ⟨_, rfl, (okRng_ hk).1, (okRng_ hk).2, q _ H1 s1 walks_rng⟩
      · cases e
    · cases e
theorem wRng2 {p : Pos} (hg : Gl X "range") (hm : X.mg "range" = none) (h : PE X a (tD X.K f)) (h' : PE X b (tD X.K g)) (hs : starEach [a, b] X.env = [(false, eval a X.env), (false, eval b X.env)] := by rfl) (hs2 : starEach [b] X.env = [(false, eval b X.env)] := by rfl) :
    PI X tg (.Call (.Name "range" p) [a, b] [] pos) (iD X.K (BL.iRng2 f g)) :=
  (pi_range2 hg hm (pa_cons h (pa_cons h' pa_nil hs2) (by rw [hs, hs2])) hs hs2).imp fun σ H R ⟨O0, O, r, xs, E, e, q⟩ => by
    unfold BL.iRng2 at e
    obtain ⟨x, ex, e⟩ := Option.bind_eq_some_iff.mp e
    obtain ⟨y, ey, e⟩ := Option.bind_eq_some_iff.mp e
    split at e
    · split at e
      · rename_i hk
        cases e
        rw [Bool.and_eq_true] at hk
        refine ⟨O0, O, r, _, E, ex, fun v H1 s1 r1 => ⟨O0, O, r, _, E.mn s1, ey, fun w H2 s2 r2 => ?_⟩⟩
        cases r1
        cases r2
        exact ⟨_, _, rfl, ⟨(okRng_ hk.1).1, (okRng_ hk.1).2, (okRng_ hk.2).1, (okRng_ hk.2).2⟩, q _ H2 (s1.trans s2) walks_rng⟩
      · cases e
    · cases e
/-- range(a, b, -1) -/
theorem wRngDn {p p1 p2 : Pos} {jj : Nat} (hg : Gl X "range") (hm : X.mg "range" = none) (h : PE X a (tD X.K f)) (h' : PE X b (tD X.K g)) (hs : starEach [a, b, .UnaryOp .USub (.Constant (.int 1) jj p1) p2] X.env = (false, eval a X.env) :: starEach [b, .UnaryOp .USub (.Constant (.int 1) jj p1) p2] X.env := by rfl)
    (hs2 : starEach [b, .UnaryOp .USub (.Constant (.int 1) jj p1) p2] X.env = (false, eval b X.env) :: starEach [.UnaryOp .USub (.Constant (.int 1) jj p1) p2] X.env := by rfl) (hs3 : starEach [.UnaryOp .USub (.Constant (.int 1) jj p1) p2] X.env = (false, eval (.UnaryOp .USub (.Constant (.int 1) jj p1) p2) X.env) :: starEach [] X.env := by rfl)
    (hpl : (backTo pos (starEach [b, .UnaryOp .USub (.Constant (.int 1) jj p1) p2] X.env)).any (·.1) = false := by rfl) : PI X tg (.Call (.Name "range" p) [a, b, .UnaryOp .USub (.Constant (.int 1) jj p1) p2] [] pos) (iD X.K (BL.iRngDn f g)) :=
  (pi_range3 hg hm (pa_cons h (pa_cons h' (pa_cons (pe_un un_neg pe_int) pa_nil hs3) hs2) hs) hs hpl).imp fun σ H R ⟨O0, O, r, xs, E, e, q⟩ => by
    unfold BL.iRngDn at e
    obtain ⟨x, ex, e⟩ := Option.bind_eq_some_iff.mp e
    obtain ⟨y, ey, e⟩ := Option.bind_eq_some_iff.mp e
    split at e
    · split at e
      · rename_i hk
        cases e
        unfold okRng3 at hk
        rw [Bool.and_eq_true] at hk
        have k1 := okRng_ hk.1
        have k2 := okRng_ hk.2
        refine ⟨O0, O, r, _, E, ex, fun v H1 s1 r1 => ⟨O0, O, r, _, E.mn s1, ey, fun w H2 s2 r2 => ?_⟩⟩
        cases r1
        cases r2
        exact ⟨1, rfl, _, _, _, _, rfl, RgC.neg (by omega) (by omega) (by omega) (by omega), q _ H2 (s1.trans s2) walks_rngC⟩
      · cases e
    · cases e
theorem wRev1 {p p1 p2 : Pos} (hg : Gl X "reversed") (hm : X.mg "reversed" = none) (hg1 : Gl X "range") (hm1 : X.mg "range" = none) (h : PE X a (tD X.K f)) (na : starEach [a] X.env = (false, eval a X.env) :: starEach [] X.env := by rfl)
    (hs : starEach [.Call (.Name "range" p1) [a] [] p2] X.env = (false, eval (.Call (.Name "range" p1) [a] [] p2) X.env) :: starEach [] X.env := by rfl) : PI X tg (.Call (.Name "reversed" p) [.Call (.Name "range" p1) [a] [] p2] [] pos) (iD X.K (iRev1 f)) :=
  (pi_revR hg hm (prg_1 hg1 hm1 h na) hs).imp fun σ H R ⟨O0, O, r, xs, E, e, q⟩ => by
    unfold iRev1 at e
    obtain ⟨x, ex, e⟩ := Option.bind_eq_some_iff.mp e
    split at e
    · split at e
      · rename_i hk
        cases e
        refine ⟨O0, O, r, _, E, ex, fun v H1 s1 r1 => ?_⟩
        cases r1
        exact ⟨_, rfl, by omega, by omega, (okRng_ hk).1, (okRng_ hk).2, q _ H1 s1 walks_rngC⟩
      · cases e
    · cases e
theorem wRev2 {p p1 p2 : Pos} (hg : Gl X "reversed") (hm : X.mg "reversed" = none) (hg1 : Gl X "range") (hm1 : X.mg "range" = none) (h : PE X a (tD X.K f)) (h' : PE X b (tD X.K g)) (na : starEach [a, b] X.env = (false, eval a X.env) :: starEach [b] X.env := by rfl)
    (nb : starEach [b] X.env = (false, eval b X.env) :: starEach [] X.env := by rfl) (hp : (backTo p2 (starEach [b] X.env)).any (·.1) = false := by rfl)
    (hs : starEach [.Call (.Name "range" p1) [a, b] [] p2] X.env = (false, eval (.Call (.Name "range" p1) [a, b] [] p2) X.env) :: starEach [] X.env := by rfl) : PI X tg (.Call (.Name "reversed" p) [.Call (.Name "range" p1) [a, b] [] p2] [] pos) (iD X.K (iRev2 f g)) :=
  (pi_revR hg hm (prg_2 hg1 hm1 h h' na nb hp) hs).imp fun σ H R ⟨O0, O, r, xs, E, e, q⟩ => by
    unfold iRev2 at e
    obtain ⟨x, ex, e⟩ := Option.bind_eq_some_iff.mp e
    obtain ⟨y, ey, e⟩ := Option.bind_eq_some_iff.mp e
    split at e
    · split at e
      · rename_i hk
        cases e
        rw [Bool.and_eq_true] at hk
        refine ⟨O0, O, r, _, E, ex, fun v H1 s1 r1 => ⟨O0, O, r, _, E.mn s1, ey, fun w H2 s2 r2 => ?_⟩⟩
        cases r1
        cases r2
        exact ⟨_, _, rfl, rfl, (okRng_ hk.1).1, (okRng_ hk.1).2, (okRng_ hk.2).1, (okRng_ hk.2).2, q _ H2 (s1.trans s2) walks_rngC⟩
      · cases e
    · cases e
theorem wEnum {p tpos : Pos} {elts : List Expr} {kk : Nat} (hg : Gl X "enumerate") (hm : X.mg "enumerate" = none) (h : PE X a (tD X.K f)) (hs : starEach [a] X.env = [(false, eval a X.env)] := by rfl) : PI X (.Tuple elts kk tpos) (.Call (.Name "enumerate" p) [a] [] pos) (iD X.K (BL.iEnum f)) :=
  (pi_enum hg hm (pa_cons h pa_nil hs) hs).imp fun σ H R ⟨O0, O, r, xs, E, e, q⟩ => by
    unfold BL.iEnum at e
    obtain ⟨x, ex, e⟩ := Option.bind_eq_some_iff.mp e
    split at e
    · cases e
      refine ⟨O0, O, r, _, E, ex, fun v H1 s1 r1 => ?_⟩
      cases r1 with
      | lst hs' ha => exact ⟨_, _, rfl, hl hs', q _ H1 s1 (walks_enum hs' ha)⟩
    · cases e
theorem wZip {p tpos : Pos} {elts : List Expr} {kk : Nat} (hg : Gl X "zip") (hm : X.mg "zip" = none) (h : PE X a (tD X.K f)) (h' : PE X b (tD X.K g)) (hs : starEach [a, b] X.env = (false, eval a X.env) :: starEach [b] X.env := by rfl) (hs2 : starEach [b] X.env = [(false, eval b X.env)] := by rfl) (hpl : (backTo pos (starEach [b] X.env)).any (·.1) = false := by rfl) :
    PI X (.Tuple elts kk tpos) (.Call (.Name "zip" p) [a, b] [] pos) (iD X.K (BL.iZip f g)) :=
  (pi_zip hg hm (pa_cons h (pa_cons h' pa_nil hs2) hs) hs hpl).imp fun σ H R ⟨O0, O, r, xs, E, e, q⟩ => by
    unfold BL.iZip at e
    obtain ⟨x, ex, e⟩ := Option.bind_eq_some_iff.mp e
    obtain ⟨y, ey, e⟩ := Option.bind_eq_some_iff.mp e
    split at e
    · cases e
      refine ⟨O0, O, r, _, E, ex, fun v H1 s1 r1 => ⟨O0, O, r, _, E.mn s1, ey, fun w H2 s2 r2 => ?_⟩⟩
      cases r1 with
      | lst h1 h2 =>
        cases r2 with
        | lst h3 h4 =>
          have e1 := same_rd (hide_same (O := O) s2) h1
          exact ⟨_, _, _, _, rfl, hl e1, hl h3, q _ H2 (s1.trans s2) (walks_zip e1 (h2.mn (hide_same s2)) h3 h4)⟩
    · cases e
end
end BL

set_option Elab.async false
set_option linter.all false
set_option maxRecDepth 100000
namespace BL
open PySem PySem.Spec PyProof.Rows L2

/-! ### comprehensions -/
theorem lcGo_len {g : TGD} {t e : FE} {r : Env} : ∀ {xs ys : List Dt}, lcGo g t e r xs = some ys → ys.length ≤ xs.length
  | [], ys, h => by unfold lcGo at h; cases h; exact Nat.le_refl _
  | x :: xs, ys, h => by
    unfold lcGo at h
    obtain ⟨r1, _, h⟩ := Option.bind_eq_some_iff.mp h
    obtain ⟨y, _, h⟩ := Option.bind_eq_some_iff.mp h
    obtain ⟨k, _, h⟩ := Option.bind_eq_some_iff.mp h
    cases k with
    | true =>
      rw [if_pos rfl] at h
      obtain ⟨z, _, h⟩ := Option.bind_eq_some_iff.mp h
      obtain ⟨zs, hz, h⟩ := Option.bind_eq_some_iff.mp h
      cases h
      have := lcGo_len hz
      simp only [List.length_cons]
      omega
    | false =>
      rw [if_neg Bool.false_ne_true] at h
      have := lcGo_len h
      simp only [List.length_cons]
      omega
/-- the invariant of a comprehension's block -/
structure LcW (K : PySem.W.Frag) (g : TGD) (t e : FE) (r : Env) (O : List Addr) (H1 : Hp) (D : Addr) (xs all : List Dt) (i m : Nat) (H : Hp) : Prop where
  ms : m = xs.length - i
  le : i ≤ xs.length
  keep : ∀ b o, b ≠ D → H1 b = some o → H b = some o
  go : ∃ acc ds rest, H D = some (.lst acc) ∧ RpAll K (hide (D :: O) H) acc ds ∧ lcGo g t e r (xs.drop i) = some rest ∧ ds ++ rest = all ∧ acc.length ≤ i
theorem RepE0.more {K : PySem.W.Frag} {O0 O : List Addr} {σ : L2.St} {H H' : Hp} {r : Env} {D : Addr} (R : RepE0 K O0 O σ H r) (hD : H D = none) (hk : ∀ b o, b ≠ D → H b = some o → H' b = some o) (ht : ∃ o, H' D = some o ∧ Pl o) : RepE0 K O0 (D :: O) σ H' r := by
  have ne : ∀ b o, H b = some o → b ≠ D := fun b o e z => by rw [z, hD] at e; cases e
  have sm : Same (hide O H) (hide (D :: O) H') := fun b o e => by
    have e1 := hide_sub b o e
    have n : b ∉ O := fun z => by unfold hide at e; rw [if_pos z] at e; cases e
    exact hide_in (by simp only [List.mem_cons, not_or]; exact ⟨ne b o e1, n⟩) (hk b o (ne b o e1) e1)
  refine ⟨R.len, fun i d h => ?_, fun i xs h => ?_, fun i xs h => ?_, fun i c h => ?_, R.inj, fun p hp => ?_, fun p hp => List.mem_cons_of_mem _ (R.sub p hp), fun p hp => ?_⟩
  · obtain ⟨v, h1, h2⟩ := R.dat i d h
    exact ⟨v, h1, h2.mn sm⟩
  · obtain ⟨p, vs, h1, h2, h3, h4, h5⟩ := R.own i xs h
    exact ⟨p, vs, h1, List.mem_cons_of_mem _ h2, h3, hk p _ (ne p _ h4) h4, h5.mn sm⟩
  · obtain ⟨p, vs, h1, h2, h3⟩ := R.scr i xs h
    exact ⟨p, vs, h1, same_l sm h2, h3.mn sm⟩
  · obtain ⟨p, C, h1, h2, h3⟩ := R.exc i c h
    exact ⟨p, C, h1, h2, sm p _ h3⟩
  · rcases List.mem_cons.mp hp with z | z
    · rw [z]; exact ht.imp fun _ h => h.1
    · obtain ⟨o, e⟩ := R.trk p z
      exact ⟨o, hk p o (ne p o e) e⟩
  · rcases List.mem_cons.mp hp with z | z
    · rw [z]; exact .inr ht
    · exact (R.nt p z).imp id fun ⟨o, e, y⟩ => ⟨o, hk p o (ne p o e) e, y⟩
theorem RepE.more {K : PySem.W.Frag} {O0 O : List Addr} {σ : L2.St} {H H' : Hp} {r : Env} {D : Addr} (R : RepE K O0 O σ H r) (hD : H D = none) (hk : ∀ b o, b ≠ D → H b = some o → H' b = some o) (ht : ∃ o, H' D = some o ∧ Pl o) : RepE K O0 (D :: O) σ H' r := by
  refine ⟨R.toRepE0.more hD hk ht, ?_⟩
  have ne : ∀ b o, H b = some o → b ≠ D := fun b o e z => by rw [z, hD] at e; cases e
  have sm : Same (hide O H) (hide (D :: O) H') := fun b o e => by
    have e1 := hide_sub b o e
    have n : b ∉ O := fun z => by unfold hide at e; rw [if_pos z] at e; cases e
    exact hide_in (by simp only [List.mem_cons, not_or]; exact ⟨ne b o e1, n⟩) (hk b o (ne b o e1) e1)
  exact R.bx.conv (fun p h => List.mem_cons_of_mem _ h) (fun _ _ p o _ _ _ h _ => hk p o (ne p o h) h) fun ws xs h => h.mn sm
theorem lc_imp {K : PySem.W.Frag} {fi : FA} {g : TGD} {t e : FE} {vs is : List Nat} (hv : ∀ i ∈ is, i ∈ vs) {σ : L2.St} {H : Hp} {Q : VK} (q : tD K (eLc fi g t e vs) σ H Q) : tLc (iD K fi) (tgD K g is) (tDT K t) (tD K e) vs σ H Q := by
  obtain ⟨O0, O, r, d, R, ee, q⟩ := q
  unfold eLc at ee
  obtain ⟨xs, exs, ee⟩ := Option.bind_eq_some_iff.mp ee
  by_cases hsz : sizeOk xs.length = true
  case neg => rw [if_neg hsz] at ee; cases ee
  rw [if_pos hsz] at ee
  obtain ⟨all, eall, ee⟩ := Option.bind_eq_some_iff.mp ee
  cases ee
  refine ⟨O0, O, r, xs, R, exs, fun J H1 s1 Wk D hD => ?_⟩
  have R1 := R.mn s1
  refine ⟨LcW K g t e (wipeD r vs) O H1 D xs all, ⟨xs.length, by omega, Nat.zero_le _, fun b o hb h => by rw [upd_ne hb]; exact h, [], [], all, upd_same, .nil, by simpa using eall, rfl, Nat.le_refl _⟩, ?_⟩
  rintro i m H2 ⟨rfl, hi, keep, acc, ds, rest, hacc, racc, hgo, hall, hlen⟩
  have ne : ∀ b o, H1 b = some o → b ≠ D := fun b o e z => by rw [z, hD] at e; cases e
  have L : Later [] O H1 (D :: O) H2 := ⟨fun p h => List.mem_cons_of_mem _ h, fun p h => by
    rcases List.mem_cons.mp h with z | z
    · rw [z]; exact .inr hD
    · exact .inl z, fun b o n h => keep b o (ne b o h) h, fun p ⟨o, h⟩ => ⟨o, keep p o (ne p o h) h⟩⟩
  have R2 : RepE K O0 (D :: O) (L2.wipe σ vs) H2 (wipeD r vs) := (R1.wipe vs).more hD keep ⟨_, hacc, trivial⟩
  obtain ⟨w1, w2⟩ := Wk i (D :: O) H2 L R2.trk
  by_cases hlt : i < xs.length
  · refine .inr ⟨(w2 hlt).1, LcW K g t e (wipeD r vs) O H1 D xs all (i + 1) (xs.length - (i + 1)), fun H' w => ⟨_, by omega, w⟩, fun x H3 y => ?_⟩
    obtain ⟨s2, hx⟩ := (w2 hlt).2 x H3 y
    have hxi : xs[i]? = some xs[i] := by simp [hlt]
    have rx := hx _ hxi
    rw [List.drop_eq_getElem_cons hlt] at hgo
    unfold lcGo at hgo
    obtain ⟨r1, eg, hg1⟩ := Option.bind_eq_some_iff.mp hgo
    obtain ⟨y1, et, hg2⟩ := Option.bind_eq_some_iff.mp hg1
    obtain ⟨k, ek, hg3⟩ := Option.bind_eq_some_iff.mp hg2
    have hk := toB_eq ek
    clear hgo hg1 hg2
    have hgo := hg3
    clear hg3
    subst hk
    refine ⟨O0, D :: O, wipeD r vs, _, r1, R2.mn s2, rx, eg, fun σ' R3 hw => ⟨by rw [hw vs hv, wipe_idem σ vs vs fun _ h => h], ?_⟩⟩
    refine ⟨O0, D :: O, r1, k, R3, et, fun H4 s4 => ?_⟩
    have keep4 : ∀ b o, b ≠ D → H1 b = some o → H4 b = some o := fun b o hb h => s4 b o (s2 b o (keep b o hb h))
    have hacc4 : H4 D = some (.lst acc) := s4 _ _ (s2 _ _ hacc)
    have racc4 := (racc.mn (hide_same s2)).mn (hide_same s4)
    cases k with
    | true =>
      rw [if_pos rfl] at hgo
      refine iteT ?_
      obtain ⟨z, ez, hgo⟩ := Option.bind_eq_some_iff.mp hgo
      obtain ⟨zs, ezs, hgo⟩ := Option.bind_eq_some_iff.mp hgo
      cases hgo
      refine ⟨O0, D :: O, r1, z, R3.mn s4, ez, fun v H5 s5 rv => ⟨acc, s5 _ _ hacc4, ?_, rfl, hlt, fun b o hb h => ?_, acc ++ [v], ds ++ [z], zs, upd_same, ?_, ezs, ?_, ?_⟩⟩
      · have := sizeOk_lt hsz
        omega
      · rw [upd_ne hb]; exact s5 b o (keep4 b o hb h)
      · have hs : Same (hide (D :: O) H5) (hide (D :: O) (upd H5 D (.lst (acc ++ [v])))) := fun b o e => by
          have e1 := hide_sub b o e
          have n : b ∉ D :: O := fun z => by unfold hide at e; rw [if_pos z] at e; cases e
          refine hide_in n ?_
          rw [upd_ne fun z => n (by rw [z]; exact List.mem_cons_self)]
          exact e1
        exact ((racc4.mn (hide_same s5)).append (.cons rv .nil)).mn hs
      · rw [List.append_assoc]; exact hall
      · rw [List.length_append]
        simp only [List.length_cons, List.length_nil]
        omega
    | false =>
      rw [if_neg Bool.false_ne_true] at hgo
      refine iteF ?_
      exact ⟨rfl, hlt, keep4, acc, ds, rest, hacc4, racc4, hgo, hall, Nat.le_succ_of_le hlen⟩
  · refine .inl ⟨w1 (by omega), ?_⟩
    rw [List.drop_eq_nil_of_le (by omega)] at hgo
    unfold lcGo at hgo
    cases hgo
    rw [List.append_nil] at hall
    subst hall
    refine q _ H2 (fun b o h => ?_) ?_
    · have e1 := s1 b o h
      exact keep b o (ne b o e1) e1
    · refine .lst (Rd.of (hide_in (fun z => ?_) hacc)) (racc.mn (hide_less fun p h => List.mem_cons_of_mem _ h))
      obtain ⟨o, e1⟩ := R1.trk D z
      exact ne D o e1 rfl
section
variable {X : Cx}
theorem tYes_imp {K : PySem.W.Frag} : ∀ σ H Q, tDT K eYes σ H Q → tYes σ H Q := fun σ H Q ⟨O0, O, r, b, R, e, q⟩ => by
  unfold eYes at e
  cases e
  exact q H (Same.refl H)
theorem _root_.L2.PTs.imp {X : Cx} {e : List Expr} {t t' : TT} (h : PTs X e t) (i : ∀ σ H Q, t' σ H Q → t σ H Q) : PTs X e t' := ⟨fun pins s σ H Q I q => h.run pins s σ H Q I (i σ H Q q)⟩
theorem lNil : PTs X [] (tDT X.K eYes) := pts_nil.imp tYes_imp
theorem lOne {c : Expr} {f : FE} (h : PT X c (tDT X.K f)) : PTs X [c] (tDT X.K f) := pts_one h
theorem dLc {elt tg iter : Expr} {ifs : List Expr} {scope : Scope} {own : List (Str × Nat)} {pos : Pos} {fi : FA} {g : TGD} {is : List Nat} {t e : FE} (hc : X.calm = true) (hN : X.N.Nodup) (hi : PI X tg iter (iD X.K fi)) (ok : BlkOk X.N X.env.scope scope own)
    (hg : ∀ (s : Shared) (H : Hp) (C : Addr) (cl : List (Str × Addr)) (fp : List Addr), PG (X.blk s H scope (compEnvC scope cl C X.env) fp) tg (tgD X.K g is)) (ht : ∀ (s : Shared) (H : Hp) (C : Addr) (cl : List (Str × Addr)) (fp : List Addr), PTs (X.blk s H scope (compEnvC scope cl C X.env) fp) ifs (tDT X.K t))
    (he : ∀ (s : Shared) (H : Hp) (C : Addr) (cl : List (Str × Addr)) (fp : List Addr), PE (X.blk s H scope (compEnvC scope cl C X.env) fp) elt (tD X.K e)) (hv : ∀ i ∈ is, i ∈ own.map (·.2)) (hs : ∀ x, foldedSetIterable iter X.env x = pure x := by intro _; rfl) :
    PE X (.ListComp elt [⟨tg, iter, ifs, 0⟩] scope pos) (tD X.K (eLc fi g t e (own.map (·.2)))) := (pe_lc hc hN hi ok hg ht he hs).imp fun σ H Q q => lc_imp hv q
theorem dSetLc {i : Nat} {y : Str} {py : Pos} {elt tg iter : Expr} {ifs : List Expr} {scope : Scope} {own : List (Str × Nat)} {pos spos : Pos} {fi : FA} {g : TGD} {is : List Nat} {t e : FE} (hc : X.calm = true) (hN : X.N.Nodup) (hy : X.N[i]? = some y) (hyl : X.env.scope.names.lookup y = some .local)
    (hsw : swapsWith (.ListComp elt [⟨tg, iter, ifs, 0⟩] scope pos) (some (.Name y py)) spos.line X.env = pure true) (hi : PI X tg iter (iD X.K fi)) (ok : BlkOk X.N X.env.scope scope own)
    (hg : ∀ (s : Shared) (H : Hp) (C : Addr) (cl : List (Str × Addr)) (fp : List Addr), PG (X.blk s H scope (compEnvC scope cl C X.env) fp) tg (tgD X.K g is)) (ht : ∀ (s : Shared) (H : Hp) (C : Addr) (cl : List (Str × Addr)) (fp : List Addr), PTs (X.blk s H scope (compEnvC scope cl C X.env) fp) ifs (tDT X.K t))
    (he : ∀ (s : Shared) (H : Hp) (C : Addr) (cl : List (Str × Addr)) (fp : List Addr), PE (X.blk s H scope (compEnvC scope cl C X.env) fp) elt (tD X.K e)) (hv : ∀ i ∈ is, i ∈ own.map (·.2)) (hs : ∀ x, foldedSetIterable iter X.env x = pure x := by intro _; rfl) :
    PS X (.Assign [.Name y py] (.ListComp elt [⟨tg, iter, ifs, 0⟩] scope pos) spos) (tAsg (tD X.K (eLc fi g t e (own.map (·.2)))) (gName i)) :=
  (ps_setLc hc hN hy hyl hsw hi ok hg ht he hs).imp fun D σ H q => lc_imp hv q
end

/-! ### statements -/
/-- what follows an outcome -/
def Post (K : PySem.W.Frag) (O0 : List Addr) (D : Ends) (O : List Addr) (H : Hp) : SOut → Prop
  | .nx r => ∀ O' σ' H', Later O0 O H O' H' → RepE K O0 O' σ' H' r → D.nx σ' H'
  | .rt d => ∀ O' v H', Later O0 O H O' H' → Rp K (hide O0 H') v d → D.rt v H'
  | .bk r => ∀ O' σ' H', Later O0 O H O' H' → RepE K O0 O' σ' H' r → D.bk σ' H'
  | .ct r => ∀ O' σ' H', Later O0 O H O' H' → RepE K O0 O' σ' H' r → D.ct σ' H'
  | .rl xs => ∀ O' p ws H', Later O0 O H O' H' → p ∈ O' → p ∉ O0 → (∀ b ∈ O0, b ∈ O') → H' p = some (.lst ws) → RpAll K (hide O' H') ws xs → D.rt (.ref p) H'
  | .exc _ => False
theorem Post.later {K : PySem.W.Frag} {O0 : List Addr} {D : Ends} {O O' : List Addr} {H H' : Hp} (L : Later O0 O H O' H') : ∀ {o : SOut}, Post K O0 D O H o → Post K O0 D O' H' o
  | .nx r, q => fun O2 σ2 H2 L2 R => q O2 σ2 H2 (L.trans L2) R
  | .rt d, q => fun O2 v H2 L2 R => q O2 v H2 (L.trans L2) R
  | .bk r, q => fun O2 σ2 H2 L2 R => q O2 σ2 H2 (L.trans L2) R
  | .ct r, q => fun O2 σ2 H2 L2 R => q O2 σ2 H2 (L.trans L2) R
  | .rl d, q => fun O2 p ws H2 L2 hp hn hs hw ra => q O2 p ws H2 (L.trans L2) hp hn hs hw ra
  | .exc _, q => q
def tsD (K : PySem.W.Frag) (F : FS) : TS := fun D σ H => ∃ O0 O r o, RepE K O0 O σ H r ∧ F r = some o ∧ Post K O0 D O H o
section
variable {X : Cx} {st : Stmt} {rest body : List Stmt} {F G : FS} {f : FE} {e c : Expr} {pos : Pos}
theorem zNil : PSs X [] (tsD X.K sNext) := pss_nil.imp fun D σ H ⟨O0, O, r, o, R, e, q⟩ => by
  cases e
  exact q O σ H (Later.refl _ O H) R
theorem zPass : PS X (.Pass pos) (tsD X.K sNext) := ps_pass.imp fun D σ H ⟨O0, O, r, o, R, e, q⟩ => by
  cases e
  exact q O σ H (Later.refl _ O H) R
theorem zBreak : PS X (.Break pos) (tsD X.K sBreak) := ps_break.imp fun D σ H ⟨O0, O, r, o, R, e, q⟩ => by
  cases e
  exact q O σ H (Later.refl _ O H) R
theorem zCont : PS X (.Continue pos) (tsD X.K sCont) := ps_continue.imp fun D σ H ⟨O0, O, r, o, R, e, q⟩ => by
  cases e
  exact q O σ H (Later.refl _ O H) R
theorem zNever : PS X st (tsD X.K sNever) := ps_never.imp fun D σ H ⟨O0, O, r, o, R, e, q⟩ => by cases e
theorem zOne (h : PS X st (tsD X.K F)) : PSs X [st] (tsD X.K F) := pss_one h
theorem zSeq (h1 : PS X st (tsD X.K F)) (h2 : PSs X rest (tsD X.K G)) : PSs X (st :: rest) (tsD X.K (sSeq F G)) := (pss_cons h1 h2).imp fun D σ H ⟨O0, O, r, o, R, e, q⟩ => by
  unfold sSeq at e
  obtain ⟨o1, e1, e⟩ := Option.bind_eq_some_iff.mp e
  refine ⟨O0, O, r, o1, R, e1, ?_⟩
  cases o1 with
  | nx r1 => exact fun O' σ' H' L R' => ⟨O0, O', r1, o, R', e, q.later L⟩
  | rt d => cases e; exact q
  | bk r1 => cases e; exact q
  | ct r1 => cases e; exact q
  | exc c => cases e; exact q
  | rl d => cases e; exact q
theorem zAsg {tg : Expr} {g : TGD} {is : List Nat} (he : PE X e (tD X.K f)) (hg : PG X tg (tgD X.K g is)) (hs : swapsWithSole [tg] e pos.line X.env = pure false := by rfl) (hw : swappedStores [tg] e X.env = pure none := by rfl)
    (h1 : (assignEach [tg] X.env).map (·.2) = [assign tg X.env] := by rfl) : PS X (.Assign [tg] e pos) (tsD X.K (sAsg g f)) := (ps_asg he hg hs hw h1).imp fun D σ H ⟨O0, O, r, o, R, ee, q⟩ => by
  unfold sAsg at ee
  obtain ⟨x, ex, ee⟩ := Option.bind_eq_some_iff.mp ee
  obtain ⟨r1, er, ee⟩ := Option.bind_eq_some_iff.mp ee
  cases ee
  exact ⟨O0, O, r, x, R, ex, fun v H1 s1 rv => ⟨O0, O, r, x, r1, R.mn s1, rv, er, fun σ' R' _ => q O σ' H1 (Later.same s1) R'⟩⟩
theorem zSet {i : Nat} {x : Str} {pos' : Pos} (h : PS X (.Assign [.Name x pos'] e pos) (tAsg (tD X.K f) (gName i))) : PS X (.Assign [.Name x pos'] e pos) (tsD X.K (sAsg (gNm i) f)) := h.imp fun D σ H ⟨O0, O, r, o, R, ee, q⟩ => by
  unfold sAsg at ee
  obtain ⟨x, ex, ee⟩ := Option.bind_eq_some_iff.mp ee
  cases ee
  exact ⟨O0, O, r, x, R, ex, fun v H1 s1 rv => q O _ H1 (Later.same s1) ((R.mn s1).set rv)⟩
theorem zPar {i j : Nat} {t : FA} {tg : Expr} (h : PS X (.Assign [tg] e pos) (tPar i j (tDA X.K t))) : PS X (.Assign [tg] e pos) (tsD X.K (sPar [i, j] t)) := h.imp fun D σ H ⟨O0, O, r, o, R, ee, q⟩ => by
  unfold sPar at ee
  obtain ⟨xs, exs, ee⟩ := Option.bind_eq_some_iff.mp ee
  by_cases hx : xs.length = [i, j].length
  · rw [if_pos hx] at ee
    cases ee
    match xs, hx with
    | [a, b], _ =>
      refine ⟨O0, O, r, _, R, exs, fun vs H1 s1 rv => ?_⟩
      obtain ⟨v, w, rfl, r1, r2⟩ := rpAll2 rv
      exact ⟨v, w, rfl, q O _ H1 (Later.same s1) (((R.mn s1).set r1).set r2)⟩
  · rw [if_neg hx] at ee; cases ee
theorem rpAll3 {K : PySem.W.Frag} {H : Hp} {xs : List V} {d e f : Dt} (h : RpAll K H xs [d, e, f]) : ∃ x y z, xs = [x, y, z] ∧ Rp K H x d ∧ Rp K H y e ∧ Rp K H z f := by
  cases h with
  | cons a t =>
    obtain ⟨y, z, rfl, b, c⟩ := rpAll2 t
    exact ⟨_, y, z, rfl, a, b, c⟩
theorem zPar3 {i j l : Nat} {t : FA} {tg : Expr} (h : PS X (.Assign [tg] e pos) (tPar3 i j l (tDA X.K t))) : PS X (.Assign [tg] e pos) (tsD X.K (sPar [i, j, l] t)) := h.imp fun D σ H ⟨O0, O, r, o, R, ee, q⟩ => by
  unfold sPar at ee
  obtain ⟨xs, exs, ee⟩ := Option.bind_eq_some_iff.mp ee
  by_cases hx : xs.length = [i, j, l].length
  · rw [if_pos hx] at ee
    cases ee
    match xs, hx with
    | [a, b, c], _ =>
      refine ⟨O0, O, r, _, R, exs, fun vs H1 s1 rv => ?_⟩
      obtain ⟨u, v, w, rfl, r1, r2, r3⟩ := rpAll3 rv
      exact ⟨u, v, w, rfl, q O _ H1 (Later.same s1) ((((R.mn s1).set r1).set r2).set r3)⟩
  · rw [if_neg hx] at ee; cases ee
theorem zIf {a b : List Stmt} (hc : PT X c (tDT X.K f)) (ha : PSs X a (tsD X.K F)) (hb : PSs X b (tsD X.K G)) : PS X (.If c a b pos) (tsD X.K (sIf f F G)) := (ps_if hc ha hb).imp fun D σ H ⟨O0, O, r, o, R, ee, q⟩ => by
  unfold sIf at ee
  obtain ⟨x, ex, ee⟩ := Option.bind_eq_some_iff.mp ee
  obtain ⟨k, ek, ee⟩ := Option.bind_eq_some_iff.mp ee
  have := toB_eq ek; subst this
  refine ⟨O0, O, r, k, R, ex, fun H1 s1 => ?_⟩
  cases k with
  | true => exact ⟨O0, O, r, o, R.mn s1, ee, q.later (Later.same s1)⟩
  | false => exact ⟨O0, O, r, o, R.mn s1, ee, q.later (Later.same s1)⟩
theorem zRet (he : PE X e (tD X.K f)) : PS X (.Return (some e) pos) (tsD X.K (sRet f)) := (ps_ret he).imp fun D σ H ⟨O0, O, r, o, R, ee, q⟩ => by
  unfold sRet at ee
  obtain ⟨x, ex, ee⟩ := Option.bind_eq_some_iff.mp ee
  cases ee
  exact ⟨O0, O, r, x, R, ex, fun v H1 s1 rv => q O v H1 (Later.same s1) (rv.mn (hide_less R.sub))⟩
theorem zDrop (he : PE X e (tD X.K f)) (hs : swapsWith e none pos.line X.env = pure false := by rfl) : PS X (.Expr e pos) (tsD X.K (sDrop f)) := (ps_expr he hs).imp fun D σ H ⟨O0, O, r, o, R, ee, q⟩ => by
  unfold sDrop at ee
  obtain ⟨x, ex, ee⟩ := Option.bind_eq_some_iff.mp ee
  cases ee
  exact ⟨O0, O, r, x, R, ex, fun v H1 s1 rv => q O σ H1 (Later.same s1) (R.mn s1)⟩
theorem zFor {tg iter : Expr} {fi : FA} {g : TGD} {is : List Nat} (hp : PassesOwn (model X.prog X.w) X.A X.env X.xe) (hc : X.calm = true) (hi : PI X tg iter (iD X.K fi)) (hg : PG X tg (tgD X.K g is)) (hb : PSs X body (tsD X.K F))
    (hs : ∀ x, foldedSetIterable iter X.env x = pure x := by intro _; rfl) : PS X (.For tg iter body [] pos) (tsD X.K (sFor fi g F)) := (ps_for hp hc hi hg hb hs).imp fun D σ H ⟨O0, O, r, o, R, ee, q⟩ => by
  unfold sFor at ee
  obtain ⟨xs, exs, ee⟩ := Option.bind_eq_some_iff.mp ee
  refine ⟨O0, O, r, xs, R, exs, fun J H1 s1 Wk => ?_⟩
  refine ⟨fun i m σ2 H2 => m = xs.length - i ∧ i ≤ xs.length ∧ ∃ O2 r2 o2, Later O0 O H1 O2 H2 ∧ RepE X.K O0 O2 σ2 H2 r2 ∧ forGo g F (xs.drop i) r2 = some o2 ∧ Post X.K O0 D O2 H2 o2,
    ⟨xs.length, by omega, Nat.zero_le _, O, r, o, Later.refl _ _ _, R.mn s1, by simpa using ee, q.later (Later.same s1)⟩, ?_⟩
  rintro i m σ2 H2 ⟨rfl, hi, O2, r2, o2, L, R2, hgo, q2⟩
  obtain ⟨w1, w2⟩ := Wk i O2 H2 L.weak R2.trk
  by_cases hlt : i < xs.length
  · refine .inr ⟨(w2 hlt).1, _, fun σ' H' w => ⟨xs.length - (i + 1), by omega, w⟩, fun x H3 y => ?_⟩
    obtain ⟨s2, hx⟩ := (w2 hlt).2 x H3 y
    have hxi : xs[i]? = some xs[i] := by simp [hlt]
    rw [List.drop_eq_getElem_cons hlt] at hgo
    unfold forGo at hgo
    obtain ⟨r3, eg, hgo⟩ := Option.bind_eq_some_iff.mp hgo
    obtain ⟨o3, eb, hgo⟩ := Option.bind_eq_some_iff.mp hgo
    refine ⟨O0, O2, r2, _, r3, R2.mn s2, hx _ hxi, eg, fun σ' R3 _ => ⟨O0, O2, r3, o3, R3, eb, ?_⟩⟩
    have L3 : Later O0 O H1 O2 H3 := L.trans (Later.same s2)
    have q3 := q2.later (Later.same s2)
    cases o3 with
    | nx r4 => exact fun O' σ'' H' L' R' => ⟨rfl, hlt, O', r4, o2, L3.trans L', R', hgo, q3.later L'⟩
    | ct r4 => exact fun O' σ'' H' L' R' => ⟨rfl, hlt, O', r4, o2, L3.trans L', R', hgo, q3.later L'⟩
    | bk r4 => cases hgo; exact q3
    | rt d => cases hgo; exact q3
    | exc c => cases hgo; exact q3
    | rl d => cases hgo; exact q3
  · refine .inl ⟨w1 (by omega), ?_⟩
    rw [List.drop_eq_nil_of_le (by omega)] at hgo
    unfold forGo at hgo
    cases hgo
    exact q2 O2 σ2 H2 (Later.refl _ _ _) R2
theorem sWhile_go {t : FE} {b : FS} {r : Env} {o : SOut} (h : sWhile t b r = some o) : ∃ n, whileGo t b n r = some o := by
  unfold sWhile at h
  split at h
  · rename_i hh
    cases h
    exact ⟨_, Classical.choose_spec (Classical.choose_spec hh)⟩
  · cases h
theorem zWhile (hp : PassesOwn (model X.prog X.w) X.A X.env X.xe) (hc : PT X c (tDT X.K f)) (hb : PSs X body (tsD X.K F)) : PS X (.While c body [] pos) (tsD X.K (sWhile f F)) := (ps_while hp hc hb).imp fun D σ H ⟨O0, O, r, o, R, ee, q⟩ => by
  obtain ⟨n, hn⟩ := sWhile_go ee
  refine ⟨fun m σ2 H2 => ∃ O2 r2 o2, RepE X.K O0 O2 σ2 H2 r2 ∧ whileGo f F m r2 = some o2 ∧ Post X.K O0 D O2 H2 o2, ⟨n, O, r, o, R, hn, q⟩, ?_⟩
  rintro m σ2 H2 ⟨O2, r2, o2, R2, hgo, q2⟩
  cases m with
  | zero => cases hgo
  | succ m =>
    unfold whileGo at hgo
    obtain ⟨x, ex, hg1⟩ := Option.bind_eq_some_iff.mp hgo
    obtain ⟨k, ek, hg2⟩ := Option.bind_eq_some_iff.mp hg1
    have hk := toB_eq ek
    clear hgo hg1
    have hgo := hg2
    clear hg2
    subst hk
    refine ⟨O0, O2, r2, k, R2, ex, fun H3 s3 => ?_⟩
    have q3 := q2.later (Later.same s3)
    cases k with
    | true =>
      rw [if_pos rfl] at hgo
      refine iteT ?_
      obtain ⟨o3, eb, hgo⟩ := Option.bind_eq_some_iff.mp hgo
      refine ⟨_, fun σ' H' w => ⟨m, Nat.lt_succ_self m, w⟩, O0, O2, r2, o3, R2.mn s3, eb, ?_⟩
      cases o3 with
      | nx r4 => exact fun O' σ'' H' L' R' => ⟨O', r4, o2, R', hgo, q3.later L'⟩
      | ct r4 => exact fun O' σ'' H' L' R' => ⟨O', r4, o2, R', hgo, q3.later L'⟩
      | bk r4 => cases hgo; exact q3
      | rt d => cases hgo; exact q3
      | exc c => cases hgo; exact q3
      | rl d => cases hgo; exact q3
    | false =>
      rw [if_neg Bool.false_ne_true] at hgo
      refine iteF ?_
      cases hgo
      exact q3 O2 σ2 H3 (Later.refl _ _ _) (R2.mn s3)
end

/-! ### defs -/
theorem sd_get {n : Nat} {ds : List Dt} {i : Nat} {s : Sl} (e : (startD n ds)[i]? = some (some s)) : ∃ d, ds[i]? = some d ∧ s = .d d := by
  unfold startD at e
  by_cases hi : i < ds.length
  · rw [List.getElem?_append_left (by simpa using hi), List.getElem?_map] at e
    cases hd : ds[i]? with
    | none => rw [hd] at e; cases e
    | some d => rw [hd] at e; cases e; exact ⟨d, rfl, rfl⟩
  · rw [List.getElem?_append_right (by simpa using hi), List.getElem?_replicate] at e
    split at e <;> cases e
theorem rep_start {K : PySem.W.Frag} {O : List Addr} {H : Hp} {N : List Str} {vs : List V} {ds : List Dt} (t : Trk O H) (h : RpAll K (hide O H) vs ds) : RepE K O O (L2.start N vs) H (startD N.length ds) := by
  have hl := h.length
  refine ⟨⟨?_, fun i d e => ?_, fun i xs e => ?_, fun i xs e => ?_, fun i c e => ?_, fun i j p xs ys _ e => ?_, t, fun p h => h, fun p h => .inl h⟩, RepB.none fun i s e => by obtain ⟨_, _, e1⟩ := sd_get e; cases e1; rfl⟩
  · unfold L2.start startD
    rw [List.length_append, List.length_append, List.length_map, List.length_map, List.length_replicate, List.length_replicate, hl]
  · obtain ⟨d', hd, e1⟩ := sd_get e
    cases e1
    obtain ⟨v, h1, h2⟩ := h.get hd
    refine ⟨v, ?_, h2⟩
    have hi := (List.getElem?_eq_some_iff.mp h1).1
    unfold L2.start
    rw [List.getElem?_append_left (by rw [List.length_map]; omega), List.getElem?_map, h1]
    rfl
  · obtain ⟨_, _, e1⟩ := sd_get e; cases e1
  · obtain ⟨_, _, e1⟩ := sd_get e; cases e1
  · obtain ⟨_, _, e1⟩ := sd_get e; cases e1
  · obtain ⟨_, _, e1⟩ := sd_get e; cases e1
section
variable {P : Program} {w : World} {K : PySem.W.Frag} {mg : Str → Option Value} {base : Heap} {x qual : Str} {params : Arguments} {body : List Stmt} {scope : Scope} {f : Addr} {fd : FuncData} {N ps : List Str} {k n p : Nat} {F : FS}
theorem fn_pure (Fn : FunD K x qual params body scope [] [] f fd) (S : FnScope N ps scope) (hn : N.length = n) (hp : ps.length = p)
    (hb : ∀ (cdv : Value) (A : Around) (outer : List PySem.Env) (s : Shared) (H : Hp) (E : XK), Room k (A.deeper (envOfC qual scope s.heap.objs.size f cdv)) → PSs (cxOf CX0 P w K mg base N qual scope f cdv A outer s H E).nox body (tsD K F)) :
    FnOk P w K mg base CX0 (k + 1) f fd ps (spD K (runF F n p)) := by
  subst hn hp
  refine Fn.ok S (fun vs H Q E h => ?_) (fun cdv A outer s H vs Q E hr h => ⟨_, (hb cdv A outer s H E hr).nox, ?_⟩)
  · obtain ⟨O, ds, z, t, h, e, q⟩ := h
    unfold runF at e
    split at e
    · rename_i hd
      rw [h.length]
      exact hd
    · cases e
  · obtain ⟨O, ds, z, t, h, e, q⟩ := h
    unfold runF at e
    split at e
    · obtain ⟨o, eo, e⟩ := Option.bind_eq_some_iff.mp e
      refine ⟨O, O, _, o, rep_start t h, eo, ?_⟩
      cases o with
      | rt d => cases e; exact fun O' v H' L rv => q v H' (fun b o' h' => L.keep b o' (fun z => z) h') rv
      | nx r => cases e; exact fun O' σ' H' L R => q _ H' (fun b o' h' => L.keep b o' (fun z => z) h') .non
      | bk r => cases e
      | ct r => cases e
      | exc c => cases e
      | rl xs =>
        cases e
        exact fun O' p ws H' L hp hn hs hw ra => q _ H' (fun b o' h' => L.keep b o' (fun z => z) h') (.lst (Rd.of (hide_in hn hw)) (ra.mn (hide_less hs)))
    · cases e
/-- the law's promise -/
def spL (K : PySem.W.Frag) (g : List Dt → Option Dt) : Sp := fun vs H Q _ => ∃ (a : Addr) (ns : List Int), vs = [.ref a] ∧ SqL K H a (ns.map V.int) ∧ g (ns.map PyData.int) = some (.bool true) ∧ ∀ H', Q (.bl true) H'
theorem fn_law (Fn : FunD K x qual params body scope [] [] f fd) {sn : Str} (S : FnScope N [sn] scope) (hn : N.length = n)
    (hb : ∀ (cdv : Value) (A : Around) (outer : List PySem.Env) (s : Shared) (H : Hp) (E : XK), Room k (A.deeper (envOfC qual scope s.heap.objs.size f cdv)) → PSs (cxOf CX0 P w K mg base N qual scope f cdv A outer s H E).nox body (tsD K F)) :
    FnOk P w K mg base CX0 (k + 1) f fd [sn] (spL K (runL F n)) := by
  subst hn
  refine Fn.ok S (fun vs H Q E h => ?_) (fun cdv A outer s H vs Q E hr h => ⟨_, (hb cdv A outer s H E hr).nox, ?_⟩)
  · obtain ⟨a, ns, rfl, _⟩ := h; rfl
  · obtain ⟨a, ns, rfl, hS, e, q⟩ := h
    unfold runL at e
    obtain ⟨o, eo, e⟩ := Option.bind_eq_some_iff.mp e
    have hh : Same H (hide [] H) := fun b o z => hide_in (by simp) z
    have g0 : ∀ (i : Nat) s, (startL N.length (ns.map PyData.int))[i]? = some (some s) → i = 0 ∧ s = .scr (ns.map PyData.int) := fun i s e => by
      unfold startL at e
      cases i with
      | zero => simp at e; exact ⟨rfl, e.symm⟩
      | succ i =>
        rw [List.getElem?_cons_succ, List.getElem?_replicate] at e
        split at e <;> cases e
    refine ⟨[], [], _, o, ⟨⟨?_, fun i d e => ?_, fun i xs e => ?_, fun i xs e => ?_, fun i c e => ?_, fun i j p xs ys _ e => ?_, (fun p h => nomatch h), fun p h => h, fun p h => .inl h⟩, RepB.none fun i s e => by rw [(g0 i _ e).2]; rfl⟩, eo, ?_⟩
    · unfold L2.start startL
      simp
    · cases (g0 i _ e).2
    · cases (g0 i _ e).2
    · obtain ⟨rfl, e1⟩ := g0 i _ e
      cases e1
      exact ⟨a, _, rfl, same_l hh hS, RpAll.ints ns⟩
    · cases (g0 i _ e).2
    · cases (g0 i _ e).2
    · cases o with
      | rt d => cases e; exact fun O' v H' L rv => by cases rv; exact q H'
      | nx r => cases e
      | bk r => cases e
      | ct r => cases e
      | exc c => cases e
      | rl xs => cases e
end
/-! ### the script's slices, a displayed dict asked at once, the module's own data -/
section
variable {X : Cx}
theorem dScr {i : Nat} {x : Str} {p p2 pos : Pos} {lo hi : Option Expr} {l h : Option Int} (ha : PE X (.Name x p) (tVar i)) (hl : POw X lo l) (hh : POw X hi h) : PE X (.Subscript (.Name x p) (.Slice lo hi none p2) pos) (tD X.K (eScr l h i)) :=
  (pe_slice (r := fun x l' h' H Q => l' = l ∧ h' = h ∧ rSlL X.K x l' h' H Q) (fun pins s σ H x v vl vu l' h' sl Q I rx hs pl pu ⟨_, _, q⟩ => sl_list pins s σ H x v vl vu l' h' sl Q I rx hs pl pu q) ha hl.run hh.run).imp fun σ H Q ⟨O0, O, r, d, R, e, q⟩ => by
    unfold eScr at e
    split at e
    · rename_i xs hx
      cases e
      obtain ⟨a, vs, h1, h2, h3⟩ := R.scr i _ hx
      exact ⟨_, h1, rfl, rfl, a, vs, rfl, same_l hide_sub h2, fun p hp => q _ _ (same_new hp) (rp_newL R.trk hp (cutD_V h3))⟩
    · cases e
theorem hide_upd {O : List Addr} {H : Hp} {p : Addr} {o : HO} (h : p ∈ O) : hide O (upd H p o) = hide O H := by
  funext b
  unfold hide
  by_cases hb : b ∈ O
  · rw [if_pos hb, if_pos hb]
  · rw [if_neg hb, if_neg hb, upd_ne fun z => hb (by rw [z]; exact h)]
/-- the pairs of a displayed dict with text keys -/
def PPd (X : Cx) (pos : Pos) (keys : List (Option Expr)) (values : List Expr) (ks : List Str) (t : FA) : Prop :=
  ∃ trs, PPs X pos keys values trs ∧ keys.all (·.isSome) = true ∧ keys.length = values.length ∧ keys.length = ks.length ∧ ∀ (O0 O : List Addr) (r : Env) (xs : List Dt) (σ : L2.St) (H : Hp) (Q : List (V × V) → Hp → Prop), RepE X.K O0 O σ H r → t r = some xs →
    (∀ vs H', Same H H' → RpAll X.K (hide O H') vs xs → xs.length = ks.length → Q ((ks.map V.str).zip vs) H') → tPairs trs σ H Q
theorem ppNil {pos : Pos} : PPd X pos [] [] [] aNil := ⟨[], pps_nil, rfl, rfl, rfl, fun O0 O r xs σ H Q R e q => by
  cases e
  exact q [] H (Same.refl H) .nil rfl⟩
theorem ppCons {pos p : Pos} {j : Nat} {z : Str} {v : Expr} {ks : List (Option Expr)} {vs : List Expr} {zs : List Str} {f : FE} {t : FA} (hv : PE X v (tD X.K f)) (hr : PPd X pos ks vs zs t) : PPd X pos (some (.Constant (.str z) j p) :: ks) (v :: vs) (z :: zs) (aCons f t) := by
  obtain ⟨trs, h1, h2, h3, h3', h4⟩ := hr
  refine ⟨_, pps_cons pe_str hv h1, by rw [List.all_cons, h2]; rfl, by rw [List.length_cons, List.length_cons, h3], by rw [List.length_cons, List.length_cons, h3'], fun O0 O r xs σ H Q R e q => ?_⟩
  unfold aCons at e
  obtain ⟨x, ex, e⟩ := Option.bind_eq_some_iff.mp e
  obtain ⟨ys, eys, e⟩ := Option.bind_eq_some_iff.mp e
  cases e
  refine ⟨O0, O, r, x, R, ex, fun v' H1 s1 r1 => ?_⟩
  refine h4 O0 O r ys σ H1 _ (R.mn s1) eys fun ws H2 s2 r2 hl => ?_
  exact q (v' :: ws) H2 (s1.trans s2) (.cons (r1.mn (hide_same s2)) r2) (by rw [List.length_cons, List.length_cons, hl])
theorem valV_merge : ∀ (ks : List Str) (vs : List V) (acc : List (Key × V)) (z : Str), ks.Nodup → vs.length = ks.length → valV (mergeK acc ((ks.map Sum.inr).zip vs)) (Sum.inr z) = (match (ks.zip vs).lookup z with
    | some v => some v
    | none => valV acc (Sum.inr z))
  | [], vs, acc, z, _, _ => by cases vs <;> rfl
  | k :: ks, [], acc, z, _, h => by simp at h
  | k :: ks, v :: vs, acc, z, nd, hl => by
    have nd' := List.nodup_cons.mp nd
    show valV (mergeK (putK acc (Sum.inr k) v) ((ks.map Sum.inr).zip vs)) (Sum.inr z) = _
    rw [valV_merge ks vs _ z nd'.2 (by simpa using hl)]
    rw [List.zip_cons_cons, List.lookup_cons]
    by_cases hz : z = k
    · subst hz
      have hn : (ks.zip vs).lookup z = none := by
        cases hq : (ks.zip vs).lookup z with
        | none => rfl
        | some u => exact absurd (List.of_mem_zip (PySem.mem_of_lookup hq)).1 nd'.1
      rw [hn]
      rw [valV_put, if_pos rfl, beq_self_eq_true]
    · have hb : (z == k) = false := by simpa using hz
      rw [hb]
      cases (ks.zip vs).lookup z with
      | some u => rfl
      | none =>
        show valV (putK acc (Sum.inr k) v) (Sum.inr z) = valV acc (Sum.inr z)
        rw [valV_put, if_neg fun q => hz (Sum.inr.inj q)]
theorem lookup_rp {K : PySem.W.Frag} {H : Hp} {z : Str} {d : Dt} : ∀ {ks : List Str} {vs : List V} {ds : List Dt}, RpAll K H vs ds → (ks.zip ds).lookup z = some d → ∃ v, (ks.zip vs).lookup z = some v ∧ Rp K H v d
  | [], _, _, _, h => by simp at h
  | _ :: _, _, _, .nil, h => by simp at h
  | k :: ks, _, _, .cons r t, h => by
    rw [List.zip_cons_cons, List.lookup_cons] at h ⊢
    cases hb : z == k with
    | true => rw [hb] at h; cases h; exact ⟨_, rfl, r⟩
    | false => rw [hb] at h; exact lookup_rp t h
theorem dDix {pos pos' : Pos} {keys : List (Option Expr)} {values : List Expr} {ks : List Str} {t : FA} {k : Expr} {f : FE} (hu : X.A.units + 1 < cLine) (h : PPd X pos' keys values ks t) (hk : PE X k (tD X.K f)) (nd : ks.Nodup := by decide) (h0 : ks ≠ [] := by decide) (h15 : ks.length ≤ 15 := by decide) (hs : NoSl k := by exact fun _ _ => rfl) :
    PE X (.Subscript (.Dict keys values pos') k pos) (tD X.K (eDix ks t f)) := by
  obtain ⟨trs, h1, h2, h3, h3', h4⟩ := h
  have hne : keys ≠ [] := fun e => by subst e; exact h0 (List.length_eq_zero_iff.mp h3'.symm)
  refine (pe_dget hu (pe_disp h1 h2 h3 hne (by omega)) hk hs).imp fun σ H Q ⟨O0, O, r, d, R, e, q⟩ => ?_
  unfold eDix at e
  obtain ⟨xs, exs, e⟩ := Option.bind_eq_some_iff.mp e
  obtain ⟨y, ey, e⟩ := Option.bind_eq_some_iff.mp e
  intro p hp
  have R1 : RepE X.K O0 (p :: O) σ (upd H p (.dK [])) r := R.more hp (fun b o hb h => by rw [upd_ne hb]; exact h) ⟨_, upd_same, trivial⟩
  refine h4 O0 (p :: O) r xs σ _ _ R1 exs fun vs H2 s2 rv hl => ?_
  have hp2 : H2 p = some (.dK []) := s2 _ _ upd_same
  have ez : (ks.map V.str).zip vs = ((ks.map Sum.inr).zip vs).map (fun kv => (kV kv.1, kv.2)) := by
    rw [List.zip_map_left, List.zip_map_left, List.map_map]
    rfl
  refine ⟨hp2, (ks.map Sum.inr).zip vs, ez, ?_, ?_⟩
  · have := rv.length
    simp only [List.length_zip, List.length_map]
    omega
  · have npO : p ∉ O := R.trk.no hp
    have R2 := (R1.mn s2)
    refine ⟨O0, p :: O, r, y, ⟨⟨R2.len, fun i d h => ?_, fun i xs h => ?_, fun i xs h => ?_, fun i c h => ?_, R2.inj, fun b hb => ?_, R2.sub, fun b hb => ?_⟩, R2.bx.conv (fun _ h => h) (fun _ _ q o _ _ _ ho hb => by rw [upd_ne fun z => (by rw [z, hp2] at ho; cases ho; rcases hb with ⟨_, _, _, e⟩ | ⟨_, e⟩ <;> cases e)]; exact ho) fun ws xs h => by rw [hide_upd List.mem_cons_self]; exact h⟩, ey, fun v H3 s3 r3 => ?_⟩
    · obtain ⟨v, a1, a2⟩ := R2.dat i d h
      exact ⟨v, a1, by rw [hide_upd List.mem_cons_self]; exact a2⟩
    · obtain ⟨b, ws, a1, a2, a3, a4, a5⟩ := R2.own i xs h
      have hb : b ≠ p := fun z => by
        have q2 : (upd H2 p (HO.dK [])) p = some (.dK []) := upd_same
        rw [z, hp2] at a4
        cases a4
      exact ⟨b, ws, a1, a2, a3, by rw [upd_ne hb]; exact a4, by rw [hide_upd List.mem_cons_self]; exact a5⟩
    · obtain ⟨b, ws, a1, a2, a3⟩ := R2.scr i xs h
      exact ⟨b, ws, a1, by rw [hide_upd List.mem_cons_self]; exact a2, by rw [hide_upd List.mem_cons_self]; exact a3⟩
    · obtain ⟨b, C, a1, a2, a3⟩ := R2.exc i c h
      exact ⟨b, C, a1, a2, by rw [hide_upd List.mem_cons_self]; exact a3⟩
    · by_cases z : b = p
      · exact ⟨_, by rw [z]; exact upd_same⟩
      · obtain ⟨o, ho⟩ := R2.trk b hb
        exact ⟨o, by rw [upd_ne z]; exact ho⟩
    · by_cases z : b = p
      · exact .inr ⟨.dK _, by rw [z]; exact upd_same, trivial⟩
      · exact (R2.nt b hb).imp id fun ⟨o, ho, y⟩ => ⟨o, by rw [upd_ne z]; exact ho, y⟩
    · split at e
      · rename_i z
        rw [rp_str r3]
        have rl := rv
        obtain ⟨w, hw, rw'⟩ := lookup_rp (ks := ks) rv e
        have hv : valV (mergeK [] ((ks.map Sum.inr).zip vs)) (Sum.inr z) = some w := by
          rw [valV_merge ks vs [] z nd (by rw [rv.length]; exact hl), hw]
        have hd := DGet.k (k := Sum.inr z) (s3 p _ upd_same)
        rw [hv] at hd
        refine ⟨p, w, rfl, hd, q w H3 (fun b o hb => ?_) ?_⟩
        · have hbp : b ≠ p := fun z => by rw [z, hp] at hb; cases hb
          refine s3 b o ?_
          rw [upd_ne hbp]
          exact s2 b o (by rw [upd_ne hbp]; exact hb)
        · have sm : Same (hide (p :: O) H2) (hide O H3) := fun b o hb => by
            have e1 := hide_sub b o hb
            have n : b ∉ p :: O := fun z => by unfold hide at hb; rw [if_pos z] at hb; cases hb
            have nb : b ≠ p := fun z => n (by rw [z]; exact List.mem_cons_self)
            exact hide_in (fun z => n (List.mem_cons_of_mem _ z)) (s3 b o (by rw [upd_ne nb]; exact e1))
          exact rw'.mn sm
      · cases e
end
/-! the module's own data: numbers, texts, tuples of such -/
mutual
def gOk (K : PySem.W.Frag) : Dt → Value → Bool
  | .none, .none => true
  | .bool b, .bool c => b == c
  | .int i, .int j _ => decide (i = j)
  | .str x, .str y _ => decide (x = y)
  | .tuple ds, .ref a => match K.lookup a with
    | some ⟨.type c, _, .seq its _, _⟩ => decide (c = "tuple") && (decide (its.size ≤ sizeLine) && gOkAll K ds its.toList)
    | _ => false
  | _, _ => false
def gOkAll (K : PySem.W.Frag) : List Dt → List Value → Bool
  | [], [] => true
  | d :: ds, u :: us => gOk K d u && gOkAll K ds us
  | _, _ => false
end
def gloD (K : PySem.W.Frag) (x : Str) (d : Dt) : Bool := match PySem.W.nsIn K mainGlobals x with
  | some (some u) => gOk K d u
  | _ => false
mutual
theorem gOk_ok {K : PySem.W.Frag} : ∀ (d : Dt) (u : Value), gOk K d u = true → ∃ v, L2.RelV v u ∧ ∀ H, Rp K H v d
  | .none, u, h => by cases u <;> first | (simp [gOk] at h; done) | exact ⟨.non, rfl, fun _ => .non⟩
  | .bool b, u, h => by
    cases u <;> first | (simp [gOk] at h; done) | skip
    rename_i c
    have : b = c := by simpa [gOk] using h
    subst this
    exact ⟨.bl b, rfl, fun _ => .bl b⟩
  | .int i, u, h => by
    cases u <;> first | (simp [gOk] at h; done) | skip
    rename_i c t
    have : i = c := by simpa [gOk] using h
    subst this
    exact ⟨.int i, ⟨t, rfl⟩, fun _ => .int i⟩
  | .str i, u, h => by
    cases u <;> first | (simp [gOk] at h; done) | skip
    rename_i c t
    have : i = c := by simpa [gOk] using h
    subst this
    exact ⟨.str i, ⟨t, rfl⟩, fun _ => .str i⟩
  | .list _, u, h => by cases u <;> simp [gOk] at h
  | .dict _, u, h => by cases u <;> simp [gOk] at h
  | .tuple ds, u, h => by
    cases u <;> first | (simp [gOk] at h; done) | skip
    rename_i a
    unfold gOk at h
    split at h
    · rename_i c od its n sl hk
      rw [Bool.and_eq_true, Bool.and_eq_true] at h
      obtain ⟨vs, r, q⟩ := gOkAll_ok ds its.toList h.2.2
      exact ⟨.ref a, rfl, fun H => .tup (.inr ⟨_, its, n, hk, congrArg Value.type (of_decide_eq_true h.1), rfl, of_decide_eq_true h.2.1, r⟩) (q H)⟩
    · cases h
theorem gOkAll_ok {K : PySem.W.Frag} : ∀ (ds : List Dt) (us : List Value), gOkAll K ds us = true → ∃ vs, L2.Vals vs us ∧ ∀ H, RpAll K H vs ds
  | [], us, h => by cases us <;> first | (simp [gOkAll] at h; done) | exact ⟨[], .nil, fun _ => .nil⟩
  | d :: ds, us, h => by
    cases us with
    | nil => simp [gOkAll] at h
    | cons u us =>
      have h' : gOk K d u = true ∧ gOkAll K ds us = true := by simpa [gOkAll] using h
      obtain ⟨v, r, q⟩ := gOk_ok d u h'.1
      obtain ⟨vs, rs, qs⟩ := gOkAll_ok ds us h'.2
      exact ⟨v :: vs, .cons r rs, fun H => .cons (q H) (qs H)⟩
end
/-- a name of the module that holds data -/
def GloD (K : PySem.W.Frag) (mg : Str → Option Value) (x : Str) (d : Dt) : Prop := ∃ v u, mg x = some u ∧ L2.RelV v u ∧ ∀ H, Rp K H v d
theorem gloD_ok {K : PySem.W.Frag} {h : Heap} {mg : Str → Option Value} (X : K.In h) (G : h.Ns mainGlobals mg) {x : Str} {d : Dt} (c : gloD K x d = true) : GloD K mg x d := by
  unfold gloD at c
  split at c
  · rename_i u hu
    obtain ⟨v, r, q⟩ := gOk_ok d u c
    exact ⟨v, u, PySem.W.mg_of X G hu, r, q⟩
  · cases c
theorem dGlo {X : Cx} {x : Str} {d : Dt} {pos : Pos} (g : GloD X.K X.mg x d) (hg : Gl X x) (hd : (x == ("__debug__" : Str)) = false := by decide) : PE X (.Name x pos) (tD X.K (eC d)) := by
  obtain ⟨v, u, hm, r, q⟩ := g
  exact dC (pe_glob hg hm r hd) q
end BL

set_option Elab.async false
set_option linter.all false
set_option maxRecDepth 100000
namespace BL
open PySem PySem.Spec PyProof.Rows L2
section
variable {X : Cx} {pos : Pos} {a b c d : Expr} {f g h k : FE}
/-! ### three links -/
def tChain3 (r1 r2 r3 : R2) (ta tb tc td : TE) : TE := fun σ H Q => ta σ H fun x H1 => tb σ H1 fun y H2 => r1 x y H2 fun z H3 => ∃ k, z = .bl k ∧
  (if k = true then tc σ H3 fun w H4 => r2 y w H4 fun z2 H5 => ∃ k2, z2 = .bl k2 ∧ (if k2 = true then td σ H5 fun v H6 => r3 w v H6 Q else Q (.bl false) H5) else Q (.bl false) H3)
theorem pe_chain3 {o1 o2 o3 : CmpOp} {r1 r2 r3 : R2} {ta tb tc td : TE} (h1 : OpR X (compareOp o1) r1) (h2 : OpR X (compareOp o2) r2) (h3 : OpR X (compareOp o3) r3) (ha : PE X a ta) (hb : PE X b tb) (hc : PE X c tc) (hd : PE X d td)
    (hm : lastMarks [o1, o2, o3] [b, c, d] = false := by with_unfolding_all rfl) : PE X (.Compare a [o1, o2, o3] [b, c, d] pos) (tChain3 r1 r2 r3 ta tb tc td) := by
  refine ⟨fun pins s σ H Q I h => ?_⟩
  refine Compare_chain (thn (ha.run pins s σ H _ I h) fun v s1 ⟨x, H1, I1, e1, q1⟩ => chain_link (thn (hb.run pins s1 σ H1 _ I1 q1) fun u s2 ⟨y, H2, I2, e2, q2⟩ =>
    thn (h1 pins s2 σ H2 x y v u _ I2 e1 e2 q2) fun d s3 ⟨z, H3, I3, e3, k, e, q3⟩ => ?_)) hm
  subst e
  cases e3
  refine wpAny_truthy_bool ?_
  cases k with
  | false => exact ite_ff ⟨.bl false, H3, I3, rfl, q3⟩
  | true =>
    refine ite_tt (chain_link (thn (hc.run pins s3 σ H3 _ I3 q3) fun w' s4 ⟨z', H4, I4, e4, q4⟩ => thn (h2 pins s4 σ H4 y z' u w' _ I4 e2 e4 q4) fun d' s5 ⟨z5, H5, I5, e5, k5, e, q5⟩ => ?_))
    subst e
    cases e5
    refine wpAny_truthy_bool ?_
    cases k5 with
    | false => exact ite_ff ⟨.bl false, H5, I5, rfl, q5⟩
    | true => exact ite_tt (chain_last (thn (hd.run pins s5 σ H5 _ I5 q5) fun w6 s6 ⟨z6, H6, I6, e6, q6⟩ => h3 pins s6 σ H6 z' z6 w' w6 Q I6 e4 e6 q6))
theorem pt_chain3 {o1 o2 o3 : CmpOp} {r1 r2 r3 : R2} {ta tb tc td : TE} (h1 : OpR X (compareOp o1) r1) (h2 : OpR X (compareOp o2) r2) (h3 : OpR X (compareOp o3) r3) (ha : PE X a ta) (hb : PE X b tb) (hc : PE X c tc) (hd : PE X d td)
    (hm : lastMarks [o1, o2, o3] [b, c, d] = false := by with_unfolding_all rfl) : PT X (.Compare a [o1, o2, o3] [b, c, d] pos) (tTest (tChain3 r1 r2 r3 ta tb tc td)) := by
  refine ⟨fun pins s σ H Q I h => ?_⟩
  refine isTrue_chain (thn (ha.run pins s σ H _ I h) fun v s1 ⟨x, H1, I1, e1, q1⟩ => test_link (thn (hb.run pins s1 σ H1 _ I1 q1) fun u s2 ⟨y, H2, I2, e2, q2⟩ =>
    thn (h1 pins s2 σ H2 x y v u _ I2 e1 e2 q2) fun d s3 ⟨z, H3, I3, e3, k, e, q3⟩ => ?_)) hm
  subst e
  cases e3
  refine wpAny_truthy_bool ?_
  cases k with
  | false =>
    obtain ⟨k', e', q'⟩ := q3
    cases e'
    exact ite_ff ⟨H3, I3, q'⟩
  | true =>
    refine ite_tt (test_link (thn (hc.run pins s3 σ H3 _ I3 q3) fun w' s4 ⟨z', H4, I4, e4, q4⟩ => thn (h2 pins s4 σ H4 y z' u w' _ I4 e2 e4 q4) fun d' s5 ⟨z5, H5, I5, e5, k5, e, q5⟩ => ?_))
    subst e
    cases e5
    refine wpAny_truthy_bool ?_
    cases k5 with
    | false =>
      obtain ⟨k', e', q'⟩ := q5
      cases e'
      exact ite_ff ⟨H5, I5, q'⟩
    | true =>
      refine ite_tt (test_last (thn (hd.run pins s5 σ H5 _ I5 q5) fun w6 s6 ⟨z6, H6, I6, e6, q6⟩ => thn (h3 pins s6 σ H6 z' z6 w' w6 _ I6 e4 e6 q6) fun d7 s7 ⟨z7, H7, I7, e7, k7, e, q7⟩ => ?_))
      subst e
      cases e7
      exact wpAny_truthy_bool ⟨H7, I7, q7⟩
theorem chain3_imp {o1 o2 o3 : Dt → Dt → Option Dt} {σ : L2.St} {H : Hp} {Q : VK} (q : tD X.K (eChain3 o1 o2 o3 f g h k) σ H Q) : tChain3 (rD X.K o1) (rD X.K o2) (rD X.K o3) (tD X.K f) (tD X.K g) (tD X.K h) (tD X.K k) σ H Q := by
  obtain ⟨O0, O, r, d, R, e1, q⟩ := q
  unfold eChain3 at e1
  obtain ⟨x, ex, e2⟩ := Option.bind_eq_some_iff.mp e1
  obtain ⟨y, ey, e3⟩ := Option.bind_eq_some_iff.mp e2
  obtain ⟨z, ez, e4⟩ := Option.bind_eq_some_iff.mp e3
  obtain ⟨k1, ek, e5⟩ := Option.bind_eq_some_iff.mp e4
  clear e1 e2 e3 e4
  have hz : z = .bool k1 := toB_eq ek
  subst hz
  refine ⟨O0, O, r, x, R, ex, fun v H1 s1 r1 => ⟨O0, O, r, y, R.mn s1, ey, fun w H2 s2 r2 => ⟨O, x, y, _, (R.trk.mn s1).mn s2, r1.mn (hide_same s2), r2, ez, fun u H3 s3 r3 => ?_⟩⟩⟩
  refine ⟨k1, rp_bl r3, ?_⟩
  cases k1 with
  | true =>
    rw [if_pos rfl] at e5 ⊢
    obtain ⟨w', ew, e6⟩ := Option.bind_eq_some_iff.mp e5
    obtain ⟨z2, ez2, e7⟩ := Option.bind_eq_some_iff.mp e6
    obtain ⟨k2, ek2, e8⟩ := Option.bind_eq_some_iff.mp e7
    clear e5 e6 e7
    have hz2 : z2 = .bool k2 := toB_eq ek2
    subst hz2
    have R3 := ((R.mn s1).mn s2).mn s3
    refine ⟨O0, O, r, w', R3, ew, fun t H4 s4 r4 => ⟨O, y, w', _, R3.trk.mn s4, (r2.mn (hide_same s3)).mn (hide_same s4), r4, ez2, fun z' H5 s5 r5 => ?_⟩⟩
    refine ⟨k2, rp_bl r5, ?_⟩
    cases k2 with
    | true =>
      rw [if_pos rfl] at e8 ⊢
      obtain ⟨v', ev, e9⟩ := Option.bind_eq_some_iff.mp e8
      refine ⟨O0, O, r, v', (R3.mn s4).mn s5, ev, fun t' H6 s6 r6 => ⟨O, w', v', d, ((R3.trk.mn s4).mn s5).mn s6, (r4.mn (hide_same s5)).mn (hide_same s6), r6, e9, fun z' H7 s7 r7 => ?_⟩⟩
      exact q z' H7 ((((((s1.trans s2).trans s3).trans s4).trans s5).trans s6).trans s7) r7
    | false =>
      rw [if_neg Bool.false_ne_true] at e8 ⊢
      cases e8
      exact q _ H5 ((((s1.trans s2).trans s3).trans s4).trans s5) (.bl false)
  | false =>
    rw [if_neg Bool.false_ne_true] at e5 ⊢
    cases e5
    exact q _ H3 ((s1.trans s2).trans s3) (.bl false)
theorem dChain3 {op1 op2 op3 : CmpOp} {o1 o2 o3 : Dt → Dt → Option Dt} (h1 : OpR X (compareOp op1) (rD X.K o1)) (h2 : OpR X (compareOp op2) (rD X.K o2)) (h3 : OpR X (compareOp op3) (rD X.K o3)) (ha : PE X a (tD X.K f)) (hb : PE X b (tD X.K g)) (hc : PE X c (tD X.K h)) (hd : PE X d (tD X.K k))
    (hm : lastMarks [op1, op2, op3] [b, c, d] = false := by with_unfolding_all rfl) : PE X (.Compare a [op1, op2, op3] [b, c, d] pos) (tD X.K (eChain3 o1 o2 o3 f g h k)) := (pe_chain3 h1 h2 h3 ha hb hc hd hm).imp fun _ _ _ q => chain3_imp q
theorem tChain3_ {op1 op2 op3 : CmpOp} {o1 o2 o3 : Dt → Dt → Option Dt} (h1 : OpR X (compareOp op1) (rD X.K o1)) (h2 : OpR X (compareOp op2) (rD X.K o2)) (h3 : OpR X (compareOp op3) (rD X.K o3)) (ha : PE X a (tD X.K f)) (hb : PE X b (tD X.K g)) (hc : PE X c (tD X.K h)) (hd : PE X d (tD X.K k))
    (hm : lastMarks [op1, op2, op3] [b, c, d] = false := by with_unfolding_all rfl) : PT X (.Compare a [op1, op2, op3] [b, c, d] pos) (tDT X.K (eChain3 o1 o2 o3 f g h k)) := (pt_chain3 h1 h2 h3 ha hb hc hd hm).imp fun _ _ _ q => chain3_imp (tDT_D q)
/-! ### min, max of a pair -/
theorem vals_int2 {i j : Int} {us : List Value} (r : Vals [V.int i, V.int j] us) : IntsAre us [i, j] := by
  obtain ⟨t, u, rfl⟩ := Vals.int2 r
  exact .cons _ _ (.cons _ _ .nil)
theorem callD_min1 (hc : X.calm = true) (hu : X.A.units + 64 < cLine) : CallR X (.builtin "min") (cD X.K (c1 oMin1)) := by
  intro pins s σ H xs us Q I r ⟨O, ds, z, t, hx, hz, q⟩
  unfold c1 oMin1 at hz
  split at hz
  · split at hz
    · rename_i i j
      cases hz
      obtain ⟨x, rfl, rx⟩ := rpAll1 hx
      cases rx with
      | tup hx' ax =>
        obtain ⟨v1, v2, rfl, e1, e2⟩ := rpAll2 ax
        cases e1
        cases e2
        obtain ⟨its, r', pl, _⟩ := I.tuple (same_t hide_sub hx')
        obtain ⟨u, rfl, ru⟩ := vals1 r
        cases ru
        have hI := vals_int2 r'
        refine PySem.W.min_tuple_datum (x := i) (xs := [j]) (I.ok.hd hc) pl (PySem.W.HoldAll.of_ints hI) (by show X.A.units + 1 + 0 < cLine; omega) fun n v h' tk hv hh k => ?_
        obtain ⟨bs, rd⟩ := hh
        have e : PySem.W.minOf i [j] = if j < i then j else i := by
          show (if decide (j < i) = true then j else i) = _
          by_cases hj : j < i
          · rw [if_pos hj, if_pos (decide_eq_true (by omega))]
          · rw [if_neg hj, if_neg (by simp; omega)]
        rw [e] at rd
        cases rd
        exact ⟨.int _, H, I.kept k, ⟨_, rfl⟩, q _ H (Same.refl H) (.int _)⟩
    · cases hz
  · cases hz
theorem callD_max1 (hc : X.calm = true) (hu : X.A.units + 64 < cLine) : CallR X (.builtin "max") (cD X.K (c1 oMax1)) := by
  intro pins s σ H xs us Q I r ⟨O, ds, z, t, hx, hz, q⟩
  unfold c1 oMax1 at hz
  split at hz
  · split at hz
    · rename_i i j
      cases hz
      obtain ⟨x, rfl, rx⟩ := rpAll1 hx
      cases rx with
      | tup hx' ax =>
        obtain ⟨v1, v2, rfl, e1, e2⟩ := rpAll2 ax
        cases e1
        cases e2
        obtain ⟨its, r', pl, _⟩ := I.tuple (same_t hide_sub hx')
        obtain ⟨u, rfl, ru⟩ := vals1 r
        cases ru
        have hI := vals_int2 r'
        refine PySem.W.max_tuple_datum (x := i) (xs := [j]) (I.ok.hd hc) pl (PySem.W.HoldAll.of_ints hI) (by show X.A.units + 1 + 0 < cLine; omega) fun n v h' tk hv hh k => ?_
        obtain ⟨bs, rd⟩ := hh
        have e : PySem.W.maxOf i [j] = if j > i then j else i := by
          show (if decide (i < j) = true then j else i) = _
          by_cases hj : j > i
          · rw [if_pos hj, if_pos (decide_eq_true (by omega))]
          · rw [if_neg hj, if_neg (by simp; omega)]
        rw [e] at rd
        cases rd
        exact ⟨.int _, H, I.kept k, ⟨_, rfl⟩, q _ H (Same.refl H) (.int _)⟩
    · cases hz
  · cases hz
end
end BL

set_option Elab.async false
set_option linter.all false
set_option maxRecDepth 100000
namespace BL
open PySem PySem.Spec PyProof.Rows L2
/-! ### sorted -/
theorem perm_sorted_eq {α : Type} {le : α → α → Bool} (anti : ∀ a b, le a b = true → le b a = true → a = b) : ∀ {l m : List α}, l.Perm m → l.Pairwise (fun a b => le a b = true) → m.Pairwise (fun a b => le a b = true) → l = m
  | [], m, p, _, _ => (List.Perm.eq_nil p.symm).symm
  | a :: l, [], p, _, _ => absurd p.length_eq (by simp)
  | a :: l, b :: m, p, hl, hm => by
    have h1 := List.pairwise_cons.mp hl
    have h2 := List.pairwise_cons.mp hm
    have e : a = b := by
      rcases List.mem_cons.mp (p.mem_iff.mp (List.mem_cons_self (a := a) (l := l))) with e | ha
      · exact e
      · rcases List.mem_cons.mp (p.mem_iff.mpr (List.mem_cons_self (a := b) (l := m))) with e | hb
        · exact e.symm
        · exact anti a b (h1.1 b hb) (h2.1 a ha)
    subst e
    rw [perm_sorted_eq anti p.cons_inv h1.2 h2.2]
theorem leI_sorted (ns : List Int) : (ns.mergeSort fun a b => decide (a ≤ b)).Pairwise (fun a b => decide (a ≤ b) = true) :=
  List.pairwise_mergeSort (fun a b c h1 h2 => by simp at *; omega) (fun a b => by simp; omega) ns
theorem leP_iff {a b : Int × Int} : leP a b = true ↔ a.1 < b.1 ∨ (a.1 = b.1 ∧ a.2 ≤ b.2) := by
  unfold leP
  simp
theorem leP_sorted (ps : List (Int × Int)) : (ps.mergeSort leP).Pairwise (fun a b => leP a b = true) :=
  List.pairwise_mergeSort (fun a b c h1 h2 => by rw [leP_iff] at *; omega) (fun a b => by
    rw [Bool.or_eq_true, leP_iff, leP_iff]; omega) ps
theorem leP_anti (a b : Int × Int) (h1 : leP a b = true) (h2 : leP b a = true) : a = b := by
  rw [leP_iff] at *
  obtain ⟨x, y⟩ := a
  obtain ⟨u, v⟩ := b
  simp only at h1 h2
  have : x = u := by omega
  have : y = v := by omega
  subst_vars
  rfl
theorem intsOf_rp {K : PySem.W.Frag} {H : Hp} : ∀ {vs : List V} {ds : List Dt} {ns : List Int}, RpAll K H vs ds → intsOf ds = some ns → vs = ns.map V.int
  | _, _, ns, .nil, h => by cases h; rfl
  | _, _, ns, @RpAll.cons _ _ v vs d ds a t, h => by
    cases d with
    | int i =>
      unfold intsOf at h
      cases e : intsOf ds with
      | none => rw [e] at h; cases h
      | some m =>
        rw [e] at h
        cases h
        rw [rp_int a, intsOf_rp t e]
        rfl
    | _ => cases h
theorem rp_ints {K : PySem.W.Frag} {H : Hp} : ∀ (ns : List Int), RpAll K H (ns.map V.int) (ns.map PyData.int)
  | [] => .nil
  | i :: ns => .cons (.int i) (rp_ints ns)
/-- which pair an item is -/
noncomputable def kOf (h : Heap) (u : Value) : Int × Int := open Classical in if e : ∃ p : Int × Int, Srt.IsPair h u p.1 p.2 then Classical.choose e else (0, 0)
theorem kOf_eq {h : Heap} {u : Value} {i j : Int} (p : Srt.IsPair h u i j) : kOf h u = (i, j) := by
  have e : ∃ p : Int × Int, Srt.IsPair h u p.1 p.2 := ⟨(i, j), p⟩
  unfold kOf
  rw [dif_pos e]
  have q := Classical.choose_spec e
  generalize Classical.choose e = r at *
  obtain ⟨a, o, t, t2, n, e1, e2, e3, e4⟩ := p
  obtain ⟨a', o', t', t2', n', e1', e2', e3', e4'⟩ := q
  rw [e1] at e1'
  cases e1'
  rw [e2] at e2'
  cases e2'
  rw [e4] at e4'
  obtain ⟨x, y⟩ := r
  cases e4'
  rfl
def pairD (p : Int × Int) : Dt := .tuple [.int p.1, .int p.2]
section
variable {X : Cx} {pos : Pos}
theorem pairs_rp {pins : List (Addr × Obj)} {σ : L2.St} {s : Shared} {H H' : Hp} (I : L2.Inv X pins σ H s) (hH : Same H' H) : ∀ {vs : List V} {ds : List Dt} {ps : List (Int × Int)} {us : List Value}, RpAll X.K H' vs ds → Vals vs us → pairsOf ds = some ps →
    us.map (kOf s.heap) = ps ∧ ∀ u ∈ us, Srt.IsPair s.heap u (kOf s.heap u).1 (kOf s.heap u).2 ∧ ∃ a, u = .ref a ∧ Rp X.K H' (.ref a) (pairD (kOf s.heap u))
  | _, _, ps, _, .nil, .nil, h => by cases h; exact ⟨rfl, fun u hu => absurd hu (by simp)⟩
  | _, _, ps, _, @RpAll.cons _ _ v vs d ds a t, .cons r rt, h => by
    unfold pairsOf at h
    split at h
    · rename_i e
      cases e
    · rename_i i j xs e
      cases e
      cases ep : pairsOf ds with
      | none => rw [ep] at h; cases h
      | some m =>
        rw [ep] at h
        cases h
        obtain ⟨h1, h2⟩ := pairs_rp I hH t rt ep
        cases a with
        | tup hs ha =>
          rename_i ad ws
          obtain ⟨w1, w2, rfl, q1, q2⟩ := rpAll2 ha
          cases q1
          cases q2
          cases r
          obtain ⟨its, rv, ⟨o, ho, hc, n, hd⟩, _⟩ := I.tuple (same_t hH hs)
          obtain ⟨u1, u2, rfl, ⟨t1, rfl⟩, ⟨t2, rfl⟩⟩ := vals2 rv
          have hp : Srt.IsPair s.heap (.ref ad) i j := ⟨ad, o, t1, t2, n, rfl, ho, hc, hd⟩
          have hk := kOf_eq hp
          refine ⟨by rw [List.map_cons, h1, hk], fun u hu => ?_⟩
          rcases List.mem_cons.mp hu with e | hu
          · subst e
            rw [hk]
            exact ⟨hp, ad, rfl, .tup hs ha⟩
          · exact h2 u hu
    · cases h
theorem rp_backs {K : PySem.W.Frag} {H : Hp} {k : Value → Int × Int} : ∀ {us : List Value}, (∀ u ∈ us, ∃ a, u = .ref a ∧ Rp K H (.ref a) (pairD (k u))) → RpAll K H (us.map backV) (us.map fun u => pairD (k u))
  | [], _ => .nil
  | u :: us, h => by
    obtain ⟨a, e, ra⟩ := h u List.mem_cons_self
    refine .cons ?_ (rp_backs fun v hv => h v (List.mem_cons_of_mem _ hv))
    subst e
    exact ra
theorem callD_sorted : CallR X (.builtin "sorted") (cD X.K (c1 oSorted)) := by
  intro pins s σ H xs us Q I r ⟨O, ds, z, t, hx, hz, q⟩
  unfold c1 oSorted at hz
  split at hz
  · split at hz
    · obtain ⟨x, rfl, rx⟩ := rpAll1 hx
      cases rx with
      | lst hx' ax =>
        rename_i ad vs
        split at hz
        · rename_i ns en
          cases hz
          have ev := intsOf_rp ax en
          subst ev
          refine cr_sortedI pins s σ H _ us Q I r ⟨_, ns, rfl, hl hx', fun ns' p hp hs hn => ?_⟩
          have e : ns' = ns.mergeSort fun a b => decide (a ≤ b) := perm_sorted_eq (le := fun a b => decide (a ≤ b)) (fun a b h1 h2 => by simp at *; omega) (hp.trans (List.mergeSort_perm ns _).symm) (hs.imp fun h => decide_eq_true h) (leI_sorted ns)
          rw [← e] at q
          exact q _ _ (same_new hn) (rp_newL t hn (rp_ints ns'))
        · cases ep : pairsOf _ with
          | none => rw [ep] at hz; cases hz
          | some ps =>
            rw [ep] at hz
            cases hz
            obtain ⟨its, rv, hob, hz⟩ := I.list (hl hx')
            obtain ⟨u, rfl, ru⟩ := vals1 r
            cases ru
            obtain ⟨h1, h2⟩ := pairs_rp I hide_sub ax rv ep
            refine SrtO.sorted_pairsO (k := kOf s.heap) hob.isList (by rw [← rv.length]; exact hz) (fun v hv => (h2 v hv).1) fun h' d out e1 e2 kp hd hn => ?_
            have h3 : ∀ u ∈ out, ∃ a, u = .ref a ∧ Rp X.K (hide O H) (.ref a) (pairD (kOf s.heap u)) := fun u hu => (h2 u (e2.perm.mem_iff.mp hu)).2
            obtain ⟨n, hn⟩ := hn
            have hrb := rp_backs h3
            have es : out.map (kOf s.heap) = ps.mergeSort leP := perm_sorted_eq (le := leP) leP_anti ((e2.perm.map _).trans (by rw [h1]; exact (List.mergeSort_perm ps _).symm)) (List.pairwise_map.mpr (e1.imp fun {a b} h => by
              have := SrtO.lexB_no.mp h
              rw [leP_iff]
              omega)) (leP_sorted ps)
            simp only [← es, List.map_map] at q
            have hlen : (out.map backV).length ≤ sizeLine := by
              rw [List.length_map, e2.perm.length_eq, ← rv.length]
              exact hz
            have hfr := I.hok.fresh hd
            exact ⟨.ref d, upd H d (.lst (out.map backV)), I.laid (t' := s.toks) kp hd ⟨hlen, out, n, vals_back fun u hu => (h3 u hu).imp fun _ w => w.1, hn⟩, rfl, q _ _ (same_new hfr) (rp_newL t hfr hrb)⟩
    · cases hz
  · cases hz
theorem callD_sum (hc : X.calm = true) : CallR X (.builtin "sum") (cD X.K (c1 oSum)) := by
  intro pins s σ H xs us Q I r ⟨O, ds, z, t, hx, hz, q⟩
  unfold c1 oSum at hz
  split at hz
  · split at hz
    · obtain ⟨x, rfl, rx⟩ := rpAll1 hx
      cases rx with
      | lst hx' ax =>
        cases en : intsOf _ with
        | none => rw [en] at hz; cases hz
        | some ns =>
          rw [en] at hz
          cases hz
          have ev := intsOf_rp ax en
          subst ev
          exact cr_sum hc pins s σ H _ us Q I r ⟨_, ns, rfl, hl hx', q _ H (Same.refl H) (.int _)⟩
    · cases hz
  · cases hz
theorem callD_tuple : CallR X (.type "tuple") (cD X.K (c1 oTuple)) := by
  intro pins s σ H xs us Q I r ⟨O, ds, z, t, hx, hz, q⟩
  unfold c1 oTuple at hz
  split at hz
  · split at hz
    · cases hz
      obtain ⟨x, rfl, rx⟩ := rpAll1 hx
      cases rx with
      | lst hx' ax =>
        exact call_tuple_of pins s σ H _ us Q I r ⟨_, _, rfl, .inl ⟨hl hx', fun l hl => q _ _ (same_new hl) (rp_newT t hl ax)⟩⟩
    · cases hz
      obtain ⟨x, rfl, rx⟩ := rpAll1 hx
      cases rx with
      | tup hx' ax =>
        exact call_tuple_of pins s σ H _ us Q I r ⟨_, _, rfl, .inr ⟨same_t hide_sub hx', q _ H (Same.refl H) (.tup hx' ax)⟩⟩
    · cases hz
  · cases hz
theorem gTl_ {es : List Expr} {k : Nat} {is : List Nat} (hc : X.calm = true) (h : PGs X es (tgsD X.K is)) (hn : (assignEach es X.env).length = is.length := by rfl) (hst : (assignEach es X.env).findIdx? (·.1) = none := by rfl) : PG X (.Tuple es k pos) (tgD X.K (gTl is) is) :=
  (pg_unl (n := is.length) hc h hn hst).imp fun v σ H Q ⟨O0, O, r, d, r', R, rv, e, q⟩ => by
    unfold gTl at e
    split at e
    · split at e
      · rename_i hl'
        cases e
        cases rv with
        | lst hs ha => exact ⟨_, _, rfl, hl hs, by rw [ha.length, hl'], O0, O, r, _, R, ha, hl', q⟩
      · cases e
    · cases e
end
end BL

set_option Elab.async false
set_option linter.all false
set_option maxRecDepth 100000
namespace BL
open PySem PySem.Spec PyProof.Rows L2
/-- a def of the module, as it stands behind the top -/
def DefAt (K : PySem.W.Frag) (mg : Str → Option Value) (x : Str) (st : Stmt) (ps : List Str) : Prop := ∃ (fa : Addr) (fd : FuncData), FunD K x x (defArgs st) (defBody st) (defScope st) [] [] fa fd ∧ mg x = some (.ref fa) ∧ Binds K fd ps []
/-- a def that keeps its promise: it computes g -/
def Av (P : Program) (w : World) (K : PySem.W.Frag) (mg : Str → Option Value) (base : Heap) (x : Str) (ps : List Str) (k : Nat) (g : List Dt → Option Dt) : Prop :=
  ∃ (fa : Addr) (fd : FuncData), FnOk P w K mg base CX0 k fa fd ps (spD K g) ∧ mg x = some (.ref fa) ∧ PySem.W.keepIn K (.ref fa) = true ∧ Binds K fd ps []
theorem dCallA {X : Cx} {a : Expr} {es : List Expr} {t : FA} {k : Nat} {ps : List Str} {gg : List Dt → Option Dt} {x : Str} {p pos : Pos} (A : Av X.prog X.w X.K X.mg X.base x ps k gg) (hr : Room k X.A) (hg : Gl X x)
    (ha : PA X (a :: es) (tDA X.K t)) (hdb : (x == ("__debug__" : Str)) = false := by decide) (he : starEach (a :: es) X.env = (false, eval a X.env) :: starEach es X.env := by rfl)
    (hpl : (backTo pos (starEach es X.env)).any (·.1) = false := by rfl) : PE X (.Call (.Name x p) (a :: es) [] pos) (tD X.K (eCall gg t)) := by
  obtain ⟨fa, fd, F, gl, kp, bd⟩ := A
  exact dCall F hr hg gl kp bd ha hdb he hpl
theorem saysX_d {fa : List He.Fa} {fn : List He.DefD} {ts : List He.Tab} {tf : List He.Defn} {ex : PySem.W.Frag → Bool} {w : World} {h : Heap} {K : PySem.W.Frag} (c : He.SaysX fa fn ts tf ex w h K) : He.SaysD fa fn K := c.t.d
theorem saysX_ex {fa : List He.Fa} {fn : List He.DefD} {ts : List He.Tab} {tf : List He.Defn} {ex : PySem.W.Frag → Bool} {w : World} {h : Heap} {K : PySem.W.Frag} (c : He.SaysX fa fn ts tf ex w h K) : ex K = true := c.more
end BL

set_option Elab.async false
set_option linter.all false
set_option maxRecDepth 100000
namespace BL
open PySem PySem.Spec PyProof.Rows L2
/-! ### own lists -/
section
variable {K : PySem.W.Frag} {O0 O : List Addr} {σ : L2.St} {H H' : Hp} {r : Env}
theorem set_len {r : Env} {i j : Nat} {x : Option Sl} {s : Option Sl} (h : (r.set i x)[j]? = some s) : j < r.length := by
  have := (List.getElem?_eq_some_iff.mp h).1
  rwa [List.length_set] at this
theorem hide_new {p : Addr} (hp : H p = none) (hk : Same H H') : Same (hide O H) (hide (p :: O) H') := fun b o e => by
  have e1 := hide_sub b o e
  have n : b ∉ p :: O := fun z => by
    rcases List.mem_cons.mp z with z | z
    · subst z; rw [hp] at e1; cases e1
    · unfold hide at e; rw [if_pos z] at e; cases e
  exact hide_in n (hk b o e1)
theorem RepE0.newOwn (R : RepE0 K O0 O σ H r) {i : Nat} {p : Addr} {vs : List V} {xs : List Dt} (hp : H p = none) (hk : Same H H') (hw : H' p = some (.lst vs)) (ra : RpAll K (hide (p :: O) H') vs xs) :
    RepE0 K O0 (p :: O) (σ.set i (some (.ref p))) H' (r.set i (some (.own xs))) := by
  have np := R.trk.no hp
  have sm : Same (hide O H) (hide (p :: O) H') := hide_new hp hk
  refine ⟨by rw [List.length_set, List.length_set, R.len], fun j x hj => ?_, fun j ys hj => ?_, fun j ys hj => ?_, fun j c hj => ?_, fun a b q ys zs ab ha hb va vb => ?_, fun q hq => ?_, fun q hq => List.mem_cons_of_mem _ (R.sub q hq), fun q hq => ?_⟩
  · by_cases e : i = j
    · subst e
      rw [List.getElem?_set_self (set_len hj)] at hj
      cases hj
    · rw [List.getElem?_set_ne e] at hj ⊢
      obtain ⟨v, h1, h2⟩ := R.dat j x hj
      exact ⟨v, h1, h2.mn sm⟩
  · by_cases e : i = j
    · subst e
      have hl := set_len hj
      rw [List.getElem?_set_self hl] at hj
      cases hj
      exact ⟨p, vs, List.getElem?_set_self (by rw [R.len]; exact hl), List.mem_cons_self, fun z => np (R.sub p z), hw, ra⟩
    · rw [List.getElem?_set_ne e] at hj ⊢
      obtain ⟨q, ws, h1, h2, h3, h4, h5⟩ := R.own j ys hj
      exact ⟨q, ws, h1, List.mem_cons_of_mem _ h2, h3, hk q _ h4, h5.mn sm⟩
  · by_cases e : i = j
    · subst e
      rw [List.getElem?_set_self (set_len hj)] at hj
      cases hj
    · rw [List.getElem?_set_ne e] at hj ⊢
      obtain ⟨q, ws, h1, h2, h3⟩ := R.scr j ys hj
      exact ⟨q, ws, h1, same_l sm h2, h3.mn sm⟩
  · by_cases e : i = j
    · subst e
      rw [List.getElem?_set_self (set_len hj)] at hj
      cases hj
    · rw [List.getElem?_set_ne e] at hj ⊢
      obtain ⟨q, C, h1, h2, h3⟩ := R.exc j c hj
      exact ⟨q, C, h1, h2, sm q _ h3⟩
  · have other : ∀ (c : Nat) (us : List Dt), i ≠ c → (r.set i (some (.own xs)))[c]? = some (some (.own us)) → (σ.set i (some (.ref p)))[c]? = some (some (.ref p)) → False := fun c us n h1 h2 => by
      rw [List.getElem?_set_ne n] at h1 h2
      obtain ⟨q', ws, g1, g2, _⟩ := R.own c us h1
      rw [g1] at h2
      cases h2
      exact np g2
    by_cases e : i = a
    · subst e
      rw [List.getElem?_set_self (by rw [R.len]; exact set_len ha)] at va
      cases va
      exact other b zs ab hb vb
    · by_cases e2 : i = b
      · subst e2
        rw [List.getElem?_set_self (by rw [R.len]; exact set_len hb)] at vb
        cases vb
        exact other a ys e ha va
      · rw [List.getElem?_set_ne e] at ha va
        rw [List.getElem?_set_ne e2] at hb vb
        exact R.inj a b q ys zs ab ha hb va vb
  · rcases List.mem_cons.mp hq with z | z
    · subst z; exact ⟨_, hw⟩
    · obtain ⟨o, h⟩ := R.trk q z
      exact ⟨o, hk q o h⟩
  · rcases List.mem_cons.mp hq with z | z
    · subst z; exact .inr ⟨_, hw, trivial⟩
    · exact (R.nt q z).imp id fun ⟨o, h, y⟩ => ⟨o, hk q o h, y⟩
theorem fp_set {σ : L2.St} {H : Hp} {i c : Nat} {v : Option V} {u : Sl} {q : Addr} (n : i ≠ c) (f : Fp (σ.set i v) H c u q) : Fp σ H c u q := by
  cases u <;> first | exact f.elim | (unfold Fp at f ⊢; simp only [List.getElem?_set_ne n] at f; exact f)
theorem fp_own {σ : L2.St} {H : Hp} {i : Nat} {p q : Addr} {xs : List Dt} (hl : i < σ.length) (f : Fp (σ.set i (some (.ref p))) H i (.own xs) q) : q = p := by
  have f' : (σ.set i (some (.ref p)))[i]? = some (some (.ref q)) := f
  rw [List.getElem?_set_self hl] at f'
  cases f'
  rfl
/-- boxes, when another slot takes an own list at a new place -/
theorem RepB.newOwn (R : RepB K O0 O σ H r) (hlen : σ.length = r.length) {i : Nat} {p : Addr} {xs : List Dt} (np : p ∉ O) : RepB K O0 O (σ.set i (some (.ref p))) H (r.set i (some (.own xs))) := by
  have off : ∀ (j : Nat) t, (r.set i (some (.own xs)))[j]? = some (some t) → (i ≠ j ∧ r[j]? = some (some t)) ∨ (i = j ∧ t = .own xs ∧ i < r.length) := fun j t h => by
    by_cases e : i = j
    · subst e
      have hl := set_len h
      rw [List.getElem?_set_self hl] at h
      exact .inr ⟨rfl, (Option.some.inj (Option.some.inj h)).symm, hl⟩
    · rw [List.getElem?_set_ne e] at h
      exact .inl ⟨e, h⟩
  refine ⟨fun j b k0 p0 ys h => ?_, fun j k xss h => ?_, fun a b s1 t q ab ha hb h1 f1 f2 => ?_⟩
  · rcases off j _ h with ⟨n, h'⟩ | ⟨_, h', _⟩
    · rw [List.getElem?_set_ne n]
      exact R.obj j b k0 p0 ys h'
    · cases h'
  · rcases off j _ h with ⟨n, h'⟩ | ⟨_, h', _⟩
    · rw [List.getElem?_set_ne n]
      exact R.bxs j k xss h'
    · cases h'
  · rcases off a _ ha with ⟨n, ha'⟩ | ⟨_, h', _⟩
    · have g1 := fp_set n f1
      rcases off b _ hb with ⟨m, hb'⟩ | ⟨m, e, hl⟩
      · exact R.sep a b s1 t q ab ha' hb' h1 g1 (fp_set m f2)
      · subst m e
        rw [fp_own (by rw [hlen]; exact hl) f2] at g1
        exact np (Fp.mem R ha' h1 g1).1
    · subst h'; cases h1
theorem RepE.newOwn (R : RepE K O0 O σ H r) {i : Nat} {p : Addr} {vs : List V} {xs : List Dt} (hp : H p = none) (hk : Same H H') (hw : H' p = some (.lst vs)) (ra : RpAll K (hide (p :: O) H') vs xs) :
    RepE K O0 (p :: O) (σ.set i (some (.ref p))) H' (r.set i (some (.own xs))) :=
  ⟨R.toRepE0.newOwn hp hk hw ra, (R.bx.newOwn R.len (R.trk.no hp)).conv (fun q h => List.mem_cons_of_mem _ h) (fun _ _ q o _ _ _ h _ => hk q o h) fun ws ys h => h.mn (hide_new hp hk)⟩
theorem later_new {p : Addr} (hp : H p = none) (hk : Same H H') : Later O0 O H (p :: O) H' :=
  ⟨fun q h => List.mem_cons_of_mem _ h, fun q h => (List.mem_cons.mp h).elim (fun z => .inr (by rw [z]; exact hp)) .inl, fun b o _ h => hk b o h, fun q ⟨o, h⟩ => ⟨o, hk q o h⟩⟩
theorem later_upd {p : Addr} {o : HO} (hp : p ∈ O) (hn : p ∉ O0) (ht : ∃ u, H p = some u) : Later O0 O H O (upd H p o) :=
  ⟨fun q h => h, fun q h => .inl h, fun b u n h => by
    have : b ≠ p := fun z => hn (n (z ▸ hp) |> fun w => z ▸ w)
    rw [upd_ne this]
    exact h, fun q ⟨u, h⟩ => by
    by_cases e : q = p
    · subst e; exact ⟨o, upd_same⟩
    · exact ⟨u, by rw [upd_ne e]; exact h⟩⟩
theorem RepE0.upOwn (R : RepE0 K O0 O σ H r) {i : Nat} {xs ys : List Dt} {p : Addr} {ws : List V} (hi : r[i]? = some (some (.own xs))) (hs : σ[i]? = some (some (.ref p))) (hp : p ∈ O) (hn : p ∉ O0) (ra : RpAll K (hide O H) ws ys) :
    RepE0 K O0 O σ (upd H p (.lst ws)) (r.set i (some (.own ys))) := by
  have hh : hide O (upd H p (.lst ws)) = hide O H := hide_upd hp
  have hl : i < r.length := (List.getElem?_eq_some_iff.mp hi).1
  refine ⟨by rw [List.length_set, R.len], fun j x hj => ?_, fun j zs hj => ?_, fun j zs hj => ?_, fun j c hj => ?_, fun a b q us zs ab ha hb va vb => ?_, fun q hq => ?_, R.sub, fun q hq => ?_⟩
  · by_cases e : i = j
    · subst e
      rw [List.getElem?_set_self hl] at hj
      cases hj
    · rw [List.getElem?_set_ne e] at hj
      rw [hh]
      exact R.dat j x hj
  · by_cases e : i = j
    · subst e
      rw [List.getElem?_set_self hl] at hj
      cases hj
      exact ⟨p, ws, hs, hp, hn, upd_same, by rw [hh]; exact ra⟩
    · rw [List.getElem?_set_ne e] at hj
      obtain ⟨q, us, h1, h2, h3, h4, h5⟩ := R.own j zs hj
      have ne : q ≠ p := fun z => by
        subst z
        exact R.inj i j q _ _ e hi hj hs h1
      exact ⟨q, us, h1, h2, h3, by rw [upd_ne ne]; exact h4, by rw [hh]; exact h5⟩
  · by_cases e : i = j
    · subst e
      rw [List.getElem?_set_self hl] at hj
      cases hj
    · rw [List.getElem?_set_ne e] at hj
      rw [hh]
      exact R.scr j zs hj
  · by_cases e : i = j
    · subst e
      rw [List.getElem?_set_self hl] at hj
      cases hj
    · rw [List.getElem?_set_ne e] at hj
      rw [hh]
      exact R.exc j c hj
  · have un : ∀ (c : Nat) (us : List Dt), (r.set i (some (.own ys)))[c]? = some (some (.own us)) → ∃ us', r[c]? = some (some (.own us')) := fun c us h => by
      by_cases e : i = c
      · subst e; exact ⟨_, hi⟩
      · rw [List.getElem?_set_ne e] at h; exact ⟨_, h⟩
    obtain ⟨u1, k1⟩ := un a us ha
    obtain ⟨u2, k2⟩ := un b zs hb
    exact R.inj a b q u1 u2 ab k1 k2 va vb
  · by_cases e : q = p
    · subst e; exact ⟨_, upd_same⟩
    · obtain ⟨o, h⟩ := R.trk q hq
      exact ⟨o, by rw [upd_ne e]; exact h⟩
  · by_cases e : q = p
    · subst e; exact .inr ⟨_, upd_same, trivial⟩
    · exact (R.nt q hq).imp id fun ⟨o, h, y⟩ => ⟨o, by rw [upd_ne e]; exact h, y⟩
theorem RepB.reown (R : RepB K O0 O σ H r) {i : Nat} {xs : List Dt} (ys : List Dt) (hi : r[i]? = some (some (.own xs))) : RepB K O0 O σ H (r.set i (some (.own ys))) := by
  have hl : i < r.length := (List.getElem?_eq_some_iff.mp hi).1
  have off : ∀ (j : Nat) t, (r.set i (some (.own ys)))[j]? = some (some t) → ∃ t', r[j]? = some (some t') ∧ (t' = t ∨ (t = .own ys ∧ t' = .own xs)) := fun j t h => by
    by_cases e : i = j
    · subst e
      rw [List.getElem?_set_self hl] at h
      cases h
      exact ⟨_, hi, .inr ⟨rfl, rfl⟩⟩
    · rw [List.getElem?_set_ne e] at h
      exact ⟨t, h, .inl rfl⟩
  refine ⟨fun j b k0 p0 zs h => ?_, fun j k xss h => ?_, fun a b s1 t q ab ha hb h1 f1 f2 => ?_⟩
  · obtain ⟨t', h1, rfl | ⟨h2, _⟩⟩ := off j _ h
    · exact R.obj j b k0 p0 zs h1
    · cases h2
  · obtain ⟨t', h1, rfl | ⟨h2, _⟩⟩ := off j _ h
    · exact R.bxs j k xss h1
    · cases h2
  · obtain ⟨s', ha', e1 | ⟨e1, _⟩⟩ := off a _ ha
    · subst e1
      obtain ⟨t', hb', e2 | ⟨e2, e3⟩⟩ := off b _ hb
      · subst e2
        exact R.sep a b s' t' q ab ha' hb' h1 f1 f2
      · subst e2 e3
        exact R.sep a b s' _ q ab ha' hb' h1 f1 f2
    · subst e1; cases h1
theorem RepE.upOwn (R : RepE K O0 O σ H r) {i : Nat} {xs ys : List Dt} {p : Addr} {ws : List V} (hi : r[i]? = some (some (.own xs))) (hs : σ[i]? = some (some (.ref p))) (hp : p ∈ O) (hn : p ∉ O0) (ra : RpAll K (hide O H) ws ys) :
    RepE K O0 O σ (upd H p (.lst ws)) (r.set i (some (.own ys))) :=
  ⟨R.toRepE0.upOwn hi hs hp hn ra, (R.bx.conv (O' := O) (H' := upd H p (.lst ws)) (fun _ h => h) (fun j s q o hj hb hf ho _ => by
    have ne : q ≠ p := fun z => by
      subst z
      refine R.bx.sep j i s _ q (fun e => ?_) hj hi hb hf hs
      subst e
      rw [hj] at hi
      cases hi
      cases hb
    rw [upd_ne ne]
    exact ho) fun us zs h => by rw [hide_upd hp]; exact h).reown ys hi⟩
theorem RpAll.last {K : PySem.W.Frag} {H : Hp} : ∀ {vs : List V} {xs : List Dt} {x : Dt}, RpAll K H vs xs → xs.getLast? = some x → ∃ y, vs[vs.length - 1]? = some y ∧ Rp K H y x ∧ RpAll K H vs.dropLast xs.dropLast
  | _, _, x, .nil, h => by cases h
  | _, _, x, .cons (v := v) (d := d) a .nil, h => by
    cases h
    exact ⟨v, rfl, a, .nil⟩
  | _, _, x, .cons (v := v) (d := d) a (.cons (v := v2) (vs := vs) (d := d2) (ds := ds) b t), h => by
    obtain ⟨y, h1, h2, h3⟩ := RpAll.last (RpAll.cons b t) (by rw [List.getLast?_cons_cons] at h; exact h)
    refine ⟨y, ?_, h2, .cons a h3⟩
    rw [List.length_cons] at h1 ⊢
    rw [List.length_cons, Nat.add_sub_cancel] 
    rw [Nat.add_sub_cancel] at h1
    rw [List.getElem?_cons_succ]
    exact h1
end
/-! ### expressions that change own lists -/
def tM (K : PySem.W.Frag) (m : FM) : TE := fun σ H Q => ∃ O0 O r d r', RepE K O0 O σ H r ∧ m r = some (d, r') ∧ ∀ v O' H', Later O0 O H O' H' → RepE K O0 O' σ H' r' → Rp K (hide O' H') v d → Q v H'
/-- a new list -/
def tF (K : PySem.W.Frag) (f : FA) : TE := fun σ H Q => ∃ O0 O r xs, RepE K O0 O σ H r ∧ f r = some xs ∧ ∀ p ws H', Same H H' → H p = none → H' p = some (.lst ws) → RpAll K (hide (p :: O) H') ws xs → Q (.ref p) H'
section
variable {X : Cx} {a e : Expr} {f : FE} {m : FM} {pos p apos : Pos} {x : Str} {i : Nat}
theorem mo_append : MtR X "list.append" rAppend := mt_append
theorem mo_pop : MtR X "list.pop" rPop := mt_pop
theorem dApp (hx : PE X (.Name x p) (tVar i)) (ha : PE X a (tD X.K f)) (hs : starEach [a] X.env = (false, eval a X.env) :: starEach [] X.env := by rfl)
    (hbase : attributeBase (.Name x p) "append" X.env (eval (.Name x p) X.env) = eval (.Name x p) X.env := by rfl)
    (hfew : ((backTo pos (starEach [a] X.env)).all (fun x => !x.1) && (backToKw pos (keywordEach [] X.env)).all (fun x => x.1.isSome)
      && decide ([a].length + ([] : List Keyword).length + (if ([] : List Keyword).isEmpty then 0 else 1) < 30)) = true := by rfl)
    (hline : (apos.endLine == pos.line) = true := by rfl) (hplain : (backTo pos (starEach [] X.env)).any (·.1) = false := by rfl) :
    PE X (.Call (.Attribute (.Name x p) "append" apos) [a] [] pos) (tM X.K (mApp i f)) :=
  (pe_bm PySem.F.plainAttrs_list PySem.F.slot_list_append PySem.F.type_list_append mo_append hx (aCons_ ha aNil_ hs) hbase hfew hline hs hplain).imp fun σ H Q ⟨O0, O, r, d, r', R, e, q⟩ => by
    unfold mApp at e
    obtain ⟨y, ey, e⟩ := Option.bind_eq_some_iff.mp e
    split at e
    · rename_i xs hi
      split at e
      · rename_i hz
        cases e
        obtain ⟨q0, vs, h1, h2, h3, h4, h5⟩ := R.own i xs hi
        refine ⟨_, h1, .inl ⟨rfl, vs, .inl (.of h4)⟩, O0, O, r, [y], R, ?_, fun ws H1 s1 rws => ?_⟩
        · unfold aCons aNil
          rw [ey]
          rfl
        · obtain ⟨w, rfl, rw'⟩ := rpAll1 rws
          have R1 := R.mn s1
          have hl := h5.length
          refine ⟨q0, vs, w, rfl, rfl, s1 _ _ h4, by rw [hl]; exact sizeOk_lt hz, ?_⟩
          exact q .non O _ ((Later.same s1).trans (later_upd h2 h3 ⟨_, s1 _ _ h4⟩)) (R1.upOwn hi h1 h2 h3 ((h5.mn (hide_same s1)).append (.cons rw' .nil))) .non
      · cases e
    · cases e
theorem dPop (hx : PE X (.Name x p) (tVar i)) (hbase : attributeBase (.Name x p) "pop" X.env (eval (.Name x p) X.env) = eval (.Name x p) X.env := by rfl) (hline : (apos.endLine == pos.line) = true := by rfl) :
    PE X (.Call (.Attribute (.Name x p) "pop" apos) [] [] pos) (tM X.K (mPop i)) :=
  (pe_bm0 PySem.F.plainAttrs_list PySem.F.slot_list_pop PySem.F.type_list_pop mo_pop hx hbase hline).imp fun σ H Q ⟨O0, O, r, d, r', R, e, q⟩ => by
    unfold mPop at e
    split at e
    · rename_i xs hi
      split at e
      · rename_i y hy
        cases e
        obtain ⟨q0, vs, h1, h2, h3, h4, h5⟩ := R.own i xs hi
        obtain ⟨w, k1, k2, k3⟩ := h5.last hy
        refine ⟨_, h1, .inl ⟨rfl, vs, .inl (.of h4)⟩, q0, vs, w, rfl, rfl, h4, k1, ?_⟩
        exact q w O _ (later_upd h2 h3 ⟨_, h4⟩) (R.upOwn hi h1 h2 h3 k3) (by rw [hide_upd h2]; exact k2)
      · cases e
    · cases e
theorem zDropM (he : PE X e (tM X.K m)) (hs : swapsWith e none pos.line X.env = pure false := by rfl) : PS X (.Expr e pos) (tsD X.K (sDropM m)) := (ps_expr he hs).imp fun D σ H ⟨O0, O, r, o, R, ee, q⟩ => by
  unfold sDropM at ee
  obtain ⟨y, ey, ee⟩ := Option.bind_eq_some_iff.mp ee
  cases ee
  exact ⟨O0, O, r, y.1, y.2, R, ey, fun v O' H' L R' _ => q O' σ H' L R'⟩
theorem zAsgM {tg : Expr} {g : TGD} {is : List Nat} (he : PE X e (tM X.K m)) (hg : PG X tg (tgD X.K g is)) (hs : swapsWithSole [tg] e pos.line X.env = pure false := by rfl) (hw : swappedStores [tg] e X.env = pure none := by rfl)
    (h1 : (assignEach [tg] X.env).map (·.2) = [assign tg X.env] := by rfl) : PS X (.Assign [tg] e pos) (tsD X.K (sAsgM g m)) := (ps_asg he hg hs hw h1).imp fun D σ H ⟨O0, O, r, o, R, ee, q⟩ => by
  unfold sAsgM at ee
  obtain ⟨y, ey, ee⟩ := Option.bind_eq_some_iff.mp ee
  obtain ⟨r1, er, ee⟩ := Option.bind_eq_some_iff.mp ee
  cases ee
  exact ⟨O0, O, r, y.1, y.2, R, ey, fun v O' H' L R' rv => ⟨O0, O', y.2, y.1, r1, R', rv, er, fun σ' R2 _ => q O' σ' H' L R2⟩⟩
theorem zOwn {es : List Expr} {t : FA} {pos' lp : Pos} (h : PS X (.Assign [.Name x pos'] (.List es lp) pos) (tAsg (tLst (tDA X.K t)) (gName i))) : PS X (.Assign [.Name x pos'] (.List es lp) pos) (tsD X.K (sOwn i t)) := h.imp fun D σ H ⟨O0, O, r, o, R, ee, q⟩ => by
  unfold sOwn at ee
  obtain ⟨ys, ey, ee⟩ := Option.bind_eq_some_iff.mp ee
  split at ee
  · rename_i hz
    cases ee
    refine ⟨O0, O, r, ys, R, ey, fun vs H1 s1 ra => ⟨by rw [ra.length]; exact sizeOk_le hz, fun q0 hq => ?_⟩⟩
    have R1 := R.mn s1
    have hs := same_new (o := .lst vs) hq
    exact q _ _ _ ((Later.same s1).trans (later_new hq hs)) (R1.newOwn hq hs upd_same (ra.mn (hide_new hq hs)))
  · cases ee
theorem zOwnC {t : FA} {g : List Dt → Option (List Dt)} {pos' : Pos} (h : PS X (.Assign [.Name x pos'] e pos) (tAsg (tF X.K (fun r => (t r).bind g)) (gName i))) : PS X (.Assign [.Name x pos'] e pos) (tsD X.K (sOwnCall i g t)) := h.imp fun D σ H ⟨O0, O, r, o, R, ee, q⟩ => by
  unfold sOwnCall at ee
  obtain ⟨ys, ey, ee⟩ := Option.bind_eq_some_iff.mp ee
  obtain ⟨zs, ez, ee⟩ := Option.bind_eq_some_iff.mp ee
  cases ee
  refine ⟨O0, O, r, zs, R, ?_, fun q0 ws H1 s1 hq hw ra => ?_⟩
  · show (t r).bind g = some zs
    rw [ey]
    exact ez
  · exact q _ _ _ (later_new hq s1) (R.newOwn hq s1 hw ra)
theorem zRetO (hx : PE X (.Name x p) (tVar i)) : PS X (.Return (some (.Name x p)) pos) (tsD X.K (sRetO i)) := (ps_ret hx).imp fun D σ H ⟨O0, O, r, o, R, ee, q⟩ => by
  unfold sRetO at ee
  split at ee
  · rename_i xs hi
    cases ee
    obtain ⟨q0, vs, h1, h2, h3, h4, h5⟩ := R.own i xs hi
    exact ⟨_, h1, q O q0 vs H (Later.refl _ _ _) h2 h3 R.sub h4 h5⟩
  · cases ee
end
end BL

set_option Elab.async false
set_option linter.all false
set_option maxRecDepth 100000
namespace BL
open PySem PySem.Spec PyProof.Rows L2
theorem set_last {α : Type} : ∀ {vs : List α} {v : α}, 0 < vs.length → vs.set (vs.length - 1) v = vs.dropLast ++ [v]
  | [a], v, _ => rfl
  | a :: b :: vs, v, _ => by
    have ih := set_last (vs := b :: vs) (v := v) (by simp)
    rw [List.length_cons] at ih ⊢
    rw [Nat.add_sub_cancel] at ih
    show (a :: b :: vs).set (vs.length + 1 + 1 - 1) v = a :: (b :: vs).dropLast ++ [v]
    rw [List.cons_append, ← ih]
    rfl
/-! ### defs that make a list, defs that change one -/
def spO (K : PySem.W.Frag) (g : List Dt → Option (List Dt)) : Sp := fun vs H Q _ => ∃ O ds xs, Trk O H ∧ RpAll K (hide O H) vs ds ∧ g ds = some xs ∧
  ∀ p ws H', Same H H' → H p = none → H' p = some (.lst ws) → RpAll K (hide (p :: O) H') ws xs → Q (.ref p) H'
def spC (K : PySem.W.Frag) (g : List Dt → List Dt → Option (List Dt)) : Sp := fun vs H Q _ => ∃ O p ws as xs ds zs, vs = .ref p :: as ∧ Trk O H ∧ p ∈ O ∧ H p = some (.lst ws) ∧ RpAll K (hide O H) ws xs ∧ RpAll K (hide O H) as ds ∧ g xs ds = some zs ∧
  ∀ ws' H', (∀ b o, b ≠ p → H b = some o → H' b = some o) → H' p = some (.lst ws') → RpAll K (hide O H') ws' zs → Q .non H'
section
variable {P : Program} {w : World} {K : PySem.W.Frag} {mg : Str → Option Value} {base : Heap} {x qual : Str} {params : Arguments} {body : List Stmt} {scope : Scope} {f : Addr} {fd : FuncData} {N ps : List Str} {k n p : Nat} {F : FS}
theorem fn_own (Fn : FunD K x qual params body scope [] [] f fd) (S : FnScope N ps scope) (hn : N.length = n) (hp : ps.length = p)
    (hb : ∀ (cdv : Value) (A : Around) (outer : List PySem.Env) (s : Shared) (H : Hp) (E : XK), Room k (A.deeper (envOfC qual scope s.heap.objs.size f cdv)) → PSs (cxOf CX0 P w K mg base N qual scope f cdv A outer s H E).nox body (tsD K F)) :
    FnOk P w K mg base CX0 (k + 1) f fd ps (spO K (runO F n p)) := by
  subst hn hp
  refine Fn.ok S (fun vs H Q E h => ?_) (fun cdv A outer s H vs Q E hr h => ⟨_, (hb cdv A outer s H E hr).nox, ?_⟩)
  · obtain ⟨O, ds, z, t, h, e, q⟩ := h
    unfold runO at e
    split at e
    · rename_i hd
      rw [h.length]
      exact hd
    · cases e
  · obtain ⟨O, ds, z, t, h, e, q⟩ := h
    unfold runO at e
    split at e
    · obtain ⟨o, eo, e⟩ := Option.bind_eq_some_iff.mp e
      refine ⟨O, O, _, o, rep_start t h, eo, ?_⟩
      cases o with
      | rl xs =>
        cases e
        refine fun O' p0 ws H' L hp hn hs hw ra => q p0 ws H' (fun b o' h' => L.keep b o' (fun z => z) h') ?_ hw (ra.mn (hide_less fun b hb => (List.mem_cons.mp hb).elim (fun z => by rw [z]; exact hp) (L.sub b)))
        rcases L.new p0 hp with z | z
        · exact absurd z hn
        · exact z
      | rt d => cases e
      | nx r => cases e
      | bk r => cases e
      | ct r => cases e
      | exc c => cases e
    · cases e
def AvO (P : Program) (w : World) (K : PySem.W.Frag) (mg : Str → Option Value) (base : Heap) (x : Str) (ps : List Str) (k : Nat) (g : List Dt → Option (List Dt)) : Prop :=
  ∃ (fa : Addr) (fd : FuncData), FnOk P w K mg base CX0 k fa fd ps (spO K g) ∧ mg x = some (.ref fa) ∧ PySem.W.keepIn K (.ref fa) = true ∧ Binds K fd ps []
def AvC (P : Program) (w : World) (K : PySem.W.Frag) (mg : Str → Option Value) (base : Heap) (x : Str) (ps : List Str) (k : Nat) (g : List Dt → List Dt → Option (List Dt)) : Prop :=
  ∃ (fa : Addr) (fd : FuncData), FnOk P w K mg base CX0 k fa fd ps (spC K g) ∧ mg x = some (.ref fa) ∧ PySem.W.keepIn K (.ref fa) = true ∧ Binds K fd ps []
end
section
variable {X : Cx} {a e : Expr} {es : List Expr} {f : FE} {m : FM} {pos p apos : Pos} {x y : Str} {i : Nat} {t : FA} {ps : List Str} {k : Nat}
theorem dCallO {gg : List Dt → Option (List Dt)} (A : AvO X.prog X.w X.K X.mg X.base x ps k gg) (hr : Room k X.A) (hg : Gl X x)
    (ha : PA X (a :: es) (tDA X.K t)) (hdb : (x == ("__debug__" : Str)) = false := by decide) (he : starEach (a :: es) X.env = (false, eval a X.env) :: starEach es X.env := by rfl)
    (hpl : (backTo pos (starEach es X.env)).any (·.1) = false := by rfl) : PE X (.Call (.Name x p) (a :: es) [] pos) (tF X.K (fun r => (t r).bind gg)) := by
  obtain ⟨fa, fd, F, hm, hk, hb⟩ := A
  refine (pe_call F hr hg hm hk hb .nil pass0 ha hdb he hpl).imp fun σ H Q ⟨O0, O, r, xs, R, e, q⟩ => ?_
  obtain ⟨ds, ed, e⟩ := Option.bind_eq_some_iff.mp e
  refine ⟨O0, O, r, ds, R, ed, fun vs H1 s1 ra => ?_⟩
  show spO X.K gg (vs ++ []) H1 Q E0
  rw [List.append_nil]
  refine ⟨O, ds, xs, R.trk.mn s1, ra, e, fun q0 ws H' s2 hn hw rw' => q q0 ws H' (s1.trans s2) ?_ hw rw'⟩
  cases ee : H q0 with
  | none => rfl
  | some o =>
    rw [s1 q0 o ee] at hn
    cases hn
/-- f(x, ..), f changes x -/
theorem dCh {px : Pos} {gg : List Dt → List Dt → Option (List Dt)} (A : AvC X.prog X.w X.K X.mg X.base x ps k gg) (hr : Room k X.A) (hg : Gl X x) (hx : PE X (.Name y px) (tVar i))
    (ha : PA X es (tDA X.K t)) (hdb : (x == ("__debug__" : Str)) = false := by decide) (he : starEach (.Name y px :: es) X.env = (false, eval (.Name y px) X.env) :: starEach es X.env := by rfl)
    (hpl : (backTo pos (starEach es X.env)).any (·.1) = false := by rfl) : PE X (.Call (.Name x p) (.Name y px :: es) [] pos) (tM X.K (mCh i gg t)) := by
  obtain ⟨fa, fd, F, hm, hk, hb⟩ := A
  refine (pe_call F hr hg hm hk hb .nil pass0 (pa_cons hx ha he) hdb he hpl).imp fun σ H Q ⟨O0, O, r, d, r', R, e, q⟩ => ?_
  unfold mCh at e
  obtain ⟨ds, ed, e⟩ := Option.bind_eq_some_iff.mp e
  split at e
  · rename_i xs hi
    obtain ⟨zs, ez, e⟩ := Option.bind_eq_some_iff.mp e
    cases e
    obtain ⟨q0, vs, h1, h2, h3, h4, h5⟩ := R.own i xs hi
    refine ⟨_, h1, O0, O, r, ds, R, ed, fun as H1 s1 ra => ?_⟩
    show spC X.K gg (.ref q0 :: as ++ []) H1 Q E0
    rw [List.append_nil]
    have R1 := R.mn s1
    refine ⟨O, q0, vs, as, xs, ds, zs, rfl, R1.trk, h2, s1 _ _ h4, h5.mn (hide_same s1), ra, ez, fun ws' H' hk' hw rz => ?_⟩
    have hh : Same H1 (upd H' q0 (.lst vs)) := fun b o hb => by
      by_cases e : b = q0
      · subst e
        rw [s1 _ _ h4] at hb
        rw [upd_same]
        exact hb
      · rw [upd_ne e]
        exact hk' b o e hb
    have e2 : upd (upd H' q0 (.lst vs)) q0 (.lst ws') = H' := by
      funext b
      by_cases e : b = q0
      · subst e; rw [upd_same, hw]
      · rw [upd_ne e, upd_ne e]
    have R2 := R1.mn hh
    have e3 : hide O H' = hide O (upd H' q0 (.lst vs)) := (hide_upd h2).symm
    rw [e3] at rz
    have U := R2.upOwn hi h1 h2 h3 rz
    have L := ((Later.same (O0 := O0) (O := O) s1).trans (Later.same hh)).trans (later_upd (o := .lst ws') h2 h3 ⟨_, upd_same⟩)
    rw [e2] at U L
    exact q .non O H' L U .non
  · cases e
theorem zPutLast {p1 p2 p3 : Pos} {j : Nat} (he : PE X e (tD X.K f)) (hx : PE X (.Name x p) (tVar i)) (hs : swapsWithSole [.Subscript (.Name x p) (.UnaryOp .USub (.Constant (.int 1) j p1) p2) p3] e pos.line X.env = pure false := by rfl)
    (hw : swappedStores [.Subscript (.Name x p) (.UnaryOp .USub (.Constant (.int 1) j p1) p2) p3] e X.env = pure none := by rfl)
    (ha : ∀ v, assign (.Subscript (.Name x p) (.UnaryOp .USub (.Constant (.int 1) j p1) p2) p3) X.env v = (do
      let ov ← holding [v] (eval (.Name x p) X.env)
      let iv ← holding [v, ov] (eval (.UnaryOp .USub (.Constant (.int 1) j p1) p2) X.env)
      standAt p3
      holding [v, ov, iv] (setItem ov iv v)
      release [v, ov, iv] []) := by intro _; rfl)
    (h1 : (assignEach [.Subscript (.Name x p) (.UnaryOp .USub (.Constant (.int 1) j p1) p2) p3] X.env).map (·.2) = [assign (.Subscript (.Name x p) (.UnaryOp .USub (.Constant (.int 1) j p1) p2) p3) X.env] := by rfl) :
    PS X (.Assign [.Subscript (.Name x p) (.UnaryOp .USub (.Constant (.int 1) j p1) p2) p3] e pos) (tsD X.K (sPutLast i f)) :=
  (ps_asg he (pg_sub hx (pe_un un_neg pe_int) set_list ha) hs hw h1).imp fun D σ H ⟨O0, O, r, o, R, ee, q⟩ => by
    unfold sPutLast at ee
    obtain ⟨d, ed, ee⟩ := Option.bind_eq_some_iff.mp ee
    split at ee
    · rename_i xs hi
      split at ee
      · cases ee
      · rename_i hne
        cases ee
        refine ⟨O0, O, r, d, R, ed, fun v H1 s1 rv => ?_⟩
        obtain ⟨q0, vs, h1, h2, h3, h4, h5⟩ := R.own i xs hi
        have h5' := h5.mn (hide_same (O := O) s1)
        have R1 := R.mn s1
        have hl := h5.length
        have hpos : 0 < vs.length := by
          rw [hl]
          cases xs with
          | nil => exact absurd rfl hne
          | cons z zs => simp
        refine ⟨_, h1, 1, rfl, q0, vs, -1, vs.length - 1, rfl, rfl, s1 _ _ h4, ?_, ?_⟩
        · unfold ixN
          rw [if_neg (by decide), if_pos (by omega)]
          congr 1
          omega
        · have es : vs.set (vs.length - 1) v = vs.dropLast ++ [v] := set_last hpos
          rw [es]
          have hd : RpAll X.K (hide O H1) vs.dropLast xs.dropLast := by
            obtain ⟨y, hy⟩ : ∃ y, xs.getLast? = some y := by
              cases xs with
              | nil => exact absurd rfl hne
              | cons z zs => exact ⟨_, List.getLast?_eq_some_getLast (by simp)⟩
            obtain ⟨_, _, _, z⟩ := h5'.last hy
            exact z
          exact q O σ _ ((Later.same s1).trans (later_upd h2 h3 ⟨_, s1 _ _ h4⟩)) (R1.upOwn hi h1 h2 h3 (hd.append (.cons rv .nil)))
    · cases ee
end
end BL

set_option Elab.async false
set_option linter.all false
set_option maxRecDepth 100000
namespace BL
open PySem PySem.Spec PyProof.Rows L2
/-! ### a def that changes its list: if test: first = found.pop()[0]; found.append((first, last)) -/
def tPutS (K : PySem.W.Frag) (tT : FE) : TS := tSeq (tIfS (tDT K tT) (tAsg (tOp (rD K oIx) (tBM0 K "list" rPop (tVar 0)) (tD K (eC (.int 0)))) (gName 1)) tNext)
  (tDrop (tBM K "list" rAppend (tVar 0) (tDA K (aCons (eTup (aCons (eVar 1) (aCons (eVar 2) aNil))) aNil))))
section
variable {P : Program} {w : World} {K : PySem.W.Frag} {mg : Str → Option Value} {base : Heap} {x qual : Str} {params : Arguments} {body : List Stmt} {scope : Scope} {f : Addr} {fd : FuncData} {N ps : List Str} {k : Nat}
theorem rep_none0 {O : List Addr} {H : Hp} {u v1 v2 : V} {a b : Dt} (t : Trk O H) (h1 : Rp K (hide O H) v1 a) (h2 : Rp K (hide O H) v2 b) : RepE K O O [some u, some v1, some v2] H [none, some (.d a), some (.d b)] := by
  refine ⟨⟨rfl, fun i d h => ?_, fun i d h => ?_, fun i d h => ?_, fun i d h => ?_, fun i j q xs ys _ h => ?_, t, fun p h => h, fun p h => .inl h⟩, RepB.none fun i s h => ?_⟩
  rotate_right
  · match i, h with
    | 1, h => cases h; rfl
    | 2, h => cases h; rfl
  · match i, h with
    | 1, h => cases h; exact ⟨v1, rfl, h1⟩
    | 2, h => cases h; exact ⟨v2, rfl, h2⟩
  · match i, h with
    | 1, h => cases h
    | 2, h => cases h
  · match i, h with
    | 1, h => cases h
    | 2, h => cases h
  · match i, h with
    | 1, h => cases h
    | 2, h => cases h
  · match i, h with
    | 1, h => cases h
    | 2, h => cases h
/-- the last statement -/
theorem put_end {O : List Addr} {H : Hp} {p : Addr} {ws : List V} {xs : List Dt} {v1 v2 : V} {a b : Dt} {D : Ends} (t : Trk O H) (hp : p ∈ O) (hw : H p = some (.lst ws)) (rx : RpAll K (hide O H) ws xs) (h1 : Rp K (hide O H) v1 a) (h2 : Rp K (hide O H) v2 b) (hz : sizeOk xs.length = true)
    (q : ∀ ws' H' σ, (∀ b o, b ≠ p → H b = some o → H' b = some o) → H' p = some (.lst ws') → RpAll K (hide O H') ws' (xs ++ [.tuple [a, b]]) → D.nx σ H') :
    tDrop (tBM K "list" rAppend (tVar 0) (tDA K (aCons (eTup (aCons (eVar 1) (aCons (eVar 2) aNil))) aNil))) D [some (.ref p), some v1, some v2] H := by
  refine ⟨.ref p, rfl, .inl ⟨rfl, ws, .inl (.of hw)⟩, O, O, [none, some (.d a), some (.d b)], [.tuple [a, b]], rep_none0 t h1 h2, rfl, fun us H1 s1 ra => ?_⟩
  obtain ⟨y, rfl, ry⟩ := rpAll1 ra
  refine ⟨p, ws, y, rfl, rfl, s1 _ _ hw, by rw [rx.length]; exact sizeOk_lt hz, ?_⟩
  refine q (ws ++ [y]) _ _ (fun c o hc h => by rw [upd_ne hc]; exact s1 c o h) upd_same ?_
  rw [hide_upd hp]
  exact (rx.mn (hide_same s1)).append (.cons ry .nil)
theorem fn_put {tT : FE} (Fn : FunD K x qual params body scope [] [] f fd) (S : FnScope N ps scope) (hn : N.length = 3) (hp : ps.length = 3)
    (hb : ∀ (cdv : Value) (A : Around) (outer : List PySem.Env) (s : Shared) (H : Hp) (E : XK), Room k (A.deeper (envOfC qual scope s.heap.objs.size f cdv)) → PSs (cxOf CX0 P w K mg base N qual scope f cdv A outer s H E).nox body (tPutS K tT)) :
    FnOk P w K mg base CX0 (k + 1) f fd ps (spC K (gPut tT)) := by
  refine Fn.ok S (fun vs H Q E h => ?_) (fun cdv A outer s H vs Q E hr h => ⟨_, (hb cdv A outer s H E hr).nox, ?_⟩)
  · obtain ⟨O, p, ws, as, xs, ds, zs, rfl, t, h2, hw, rx, ra, e, q⟩ := h
    unfold gPut at e
    split at e
    · rw [List.length_cons, ra.length, hp]
      rfl
    · cases e
  · obtain ⟨O, p, ws, as, xs, ds, zs, rfl, t, h2, hw, rx, ra, e, q⟩ := h
    unfold gPut at e
    split at e
    · rename_i a b
      obtain ⟨v1, v2, rfl, r1, r2⟩ := rpAll2 ra
      obtain ⟨z, ez, e1⟩ := Option.bind_eq_some_iff.mp e
      obtain ⟨kk, ek, e2⟩ := Option.bind_eq_some_iff.mp e1
      clear e e1
      have e := e2
      clear e2
      have hzb := toB_eq ek
      subst hzb
      have es : ∀ u1 u2 u3 : V, L2.start N [u1, u2, u3] = [some u1, some u2, some u3] := fun u1 u2 u3 => by
        unfold L2.start
        simp [hn]
      rw [es]
      have e0 : ∀ u1 u2 u3 : Dt, startD N.length [u1, u2, u3] = [some (.d u1), some (.d u2), some (.d u3)] := fun u1 u2 u3 => by
        unfold startD
        rw [hn]
        rfl
      have hh : Same (hide O H) (hide [] H) := hide_less fun p h => by cases h
      have R : RepE K [] [] (L2.start N [.ref p, v1, v2]) H (startD N.length [.list xs, a, b]) := rep_start (fun p h => by cases h) (.cons (.lst (.of (hide_in (by simp) hw)) (rx.mn hh)) (.cons (r1.mn hh) (.cons (r2.mn hh) .nil)))
      rw [es, e0] at R
      refine ⟨[], [], _, kk, R, ez, fun H1 s1 => ?_⟩
      have t1 := t.mn s1
      have hw1 := s1 _ _ hw
      have rx1 := rx.mn (hide_same (O := O) s1)
      have r1' := r1.mn (hide_same (O := O) s1)
      have r2' := r2.mn (hide_same (O := O) s1)
      cases kk with
      | true =>
        rw [if_pos rfl] at e
        split at e
        · rename_i y hy
          obtain ⟨a', ea, e⟩ := Option.bind_eq_some_iff.mp e
          split at e
          · rename_i hz
            cases e
            obtain ⟨yv, k1, k2, k3⟩ := rx1.last hy
            refine iteT ?_
            refine ⟨.ref p, rfl, .inl ⟨rfl, ws, .inl (.of hw1)⟩, p, ws, yv, rfl, rfl, hw1, k1, ?_⟩
            have t2 : Trk O (upd H1 p (.lst ws.dropLast)) := fun b hb => by
              by_cases e : b = p
              · subst e; exact ⟨_, upd_same⟩
              · obtain ⟨o, h⟩ := t1 b hb
                exact ⟨o, by rw [upd_ne e]; exact h⟩
            have hh2 : hide O (upd H1 p (.lst ws.dropLast)) = hide O H1 := hide_upd h2
            refine ⟨O, O, [none, some (.d a), some (.d b)], .int 0, rep_none0 (u := .ref p) (v1 := v1) (v2 := v2) t2 (by rw [hh2]; exact r1') (by rw [hh2]; exact r2'), rfl, fun iv H3 s3 ri => ?_⟩
            refine ⟨O, y, .int 0, a', t2.mn s3, ?_, ri, ea, fun av H4 s4 rav => ?_⟩
            · refine Rp.mn ?_ (hide_same s3)
              rw [hh2]
              exact k2
            · have s5 := s3.trans s4
              show tDrop (tBM K "list" rAppend (tVar 0) (tDA K (aCons (eTup (aCons (eVar 1) (aCons (eVar 2) aNil))) aNil))) { nx := fun _ H' => Q V.non H', rt := Q } [some (.ref p), some av, some v2] H4
              have k3' : RpAll K (hide O H4) ws.dropLast xs.dropLast := by
                refine RpAll.mn ?_ (hide_same s5)
                rw [hh2]
                exact k3
              have r2'' : Rp K (hide O H4) v2 b := by
                refine Rp.mn ?_ (hide_same s5)
                rw [hh2]
                exact r2'
              have hz' : sizeOk xs.dropLast.length = true := by
                unfold sizeOk at hz ⊢
                rw [List.length_dropLast]
                exact decide_eq_true (by have := of_decide_eq_true hz; omega)
              refine put_end (t2.mn s5) h2 (s5 _ _ upd_same) k3' rav r2'' hz' fun ws' H' σ hk hw' rz => q ws' H' (fun c o hc h => ?_) hw' rz
              exact hk c o hc (s5 _ _ (by rw [upd_ne hc]; exact s1 c o h))
          · cases e
        · cases e
      | false =>
        rw [if_neg Bool.false_ne_true] at e
        split at e
        · rename_i hz
          cases e
          refine iteF ?_
          exact put_end t1 h2 hw1 rx1 r1' r2' hz fun ws' H' σ hk hw' rz => q ws' H' (fun c o hc h => hk c o hc (s1 c o h)) hw' rz
        · cases e
    · cases e
end
end BL

set_option Elab.async false
set_option linter.all false
set_option maxRecDepth 100000
/-! Defs that raise. -/
namespace BL
open PySem PySem.Spec PyProof.Rows L2
abbrev FX := List Dt → Option (Except String Dt)
/-- an outcome that is no exception -/
def PureS (F : FS) : Prop := ∀ r c, F r ≠ some (.exc c)
@[simp] def sDropX (g : FX) (t : FA) (r : Env) : Option SOut := (t r).bind fun ds => (g ds).bind fun z => match z with
  | .ok _ => some (.nx r)
  | .error c => some (.exc c)
@[simp] def outX : SOut → Option (Except String Dt)
  | .rt d => some (.ok d)
  | .nx _ => some (.ok .none)
  | .rl xs => some (.ok (.list xs))
  | .exc c => some (.error c)
  | _ => none
def runX (F : FS) (N p : Nat) (ds : List Dt) : Option (Except String Dt) := if ds.length = p then (F (startD N ds)).bind outX else none
def PostX (K : PySem.W.Frag) (mg : Str → Option Value) (E : XK) (O0 : List Addr) (D : Ends) (O : List Addr) (H : Hp) : SOut → Prop
  | .exc c => ∀ O' V H', mg c = some V → Later O0 O H O' H' → E V none H'
  | o => Post K O0 D O H o
theorem PostX.later {K : PySem.W.Frag} {mg : Str → Option Value} {E : XK} {O0 : List Addr} {D : Ends} {O O' : List Addr} {H H' : Hp} (L : Later O0 O H O' H') : ∀ {o : SOut}, PostX K mg E O0 D O H o → PostX K mg E O0 D O' H' o
  | .nx r, q => Post.later (o := .nx r) L q
  | .rt d, q => Post.later (o := .rt d) L q
  | .bk r, q => Post.later (o := .bk r) L q
  | .ct r, q => Post.later (o := .ct r) L q
  | .rl d, q => Post.later (o := .rl d) L q
  | .exc c, q => fun O2 V H2 hV L2 => q O2 V H2 hV (L.trans L2)
theorem PostX.pure {K : PySem.W.Frag} {mg : Str → Option Value} {E : XK} {O0 : List Addr} {D : Ends} {O : List Addr} {H : Hp} : ∀ {o : SOut}, (∀ c, o ≠ .exc c) → PostX K mg E O0 D O H o → Post K O0 D O H o
  | .nx r, _, q => q
  | .rt d, _, q => q
  | .bk r, _, q => q
  | .ct r, _, q => q
  | .rl d, _, q => q
  | .exc c, n, _ => absurd rfl (n c)
def tsX (K : PySem.W.Frag) (mg : Str → Option Value) (E : XK) (F : FS) : TS := fun D σ H => ∃ O0 O r o, RepE K O0 O σ H r ∧ F r = some o ∧ PostX K mg E O0 D O H o
/-- what a class of an exception must say -/
structure ExcD (K : PySem.W.Frag) (mg : Str → Option Value) (c : Str) (C : Addr) : Prop where
  gl : mg c = some (.ref C)
  kp : PySem.W.keepIn K (.ref C) = true
  ty : PySem.W.typeIn K (.ref C) = some (.type "type")
  sb : PySem.W.subIn K (.ref C) (.type "BaseException") = some true
section
variable {X : Cx} {st : Stmt} {rest body : List Stmt} {F G : FS} {f : FE} {e c : Expr} {pos : Pos} {E : XK}
theorem xLift (h : PS X st (tsD X.K F)) (hp : PureS F) : PS X st (tsX X.K X.mg E F) := h.imp fun D σ H ⟨O0, O, r, o, R, e, q⟩ => ⟨O0, O, r, o, R, e, q.pure fun c z => hp r c (z ▸ e)⟩
theorem xLifts (h : PSs X body (tsD X.K F)) (hp : PureS F) : PSs X body (tsX X.K X.mg E F) := h.imp fun D σ H ⟨O0, O, r, o, R, e, q⟩ => ⟨O0, O, r, o, R, e, q.pure fun c z => hp r c (z ▸ e)⟩
theorem xNil : PSs X [] (tsX X.K X.mg E sNext) := xLifts zNil fun r c e => by cases e
theorem xOne (h : PS X st (tsX X.K X.mg E F)) : PSs X [st] (tsX X.K X.mg E F) := pss_one h
theorem xSeq (h1 : PS X st (tsX X.K X.mg E F)) (h2 : PSs X rest (tsX X.K X.mg E G)) : PSs X (st :: rest) (tsX X.K X.mg E (sSeq F G)) := (pss_cons h1 h2).imp fun D σ H ⟨O0, O, r, o, R, e, q⟩ => by
  unfold sSeq at e
  obtain ⟨o1, e1, e⟩ := Option.bind_eq_some_iff.mp e
  refine ⟨O0, O, r, o1, R, e1, ?_⟩
  cases o1 with
  | nx r1 => exact fun O' σ' H' L R' => ⟨O0, O', r1, o, R', e, q.later L⟩
  | rt d => cases e; exact q
  | bk r1 => cases e; exact q
  | ct r1 => cases e; exact q
  | exc c => cases e; exact q
  | rl d => cases e; exact q
theorem xIf {a b : List Stmt} (hc : PT X c (tDT X.K f)) (ha : PSs X a (tsX X.K X.mg E F)) (hb : PSs X b (tsX X.K X.mg E G)) : PS X (.If c a b pos) (tsX X.K X.mg E (sIf f F G)) := (ps_if hc ha hb).imp fun D σ H ⟨O0, O, r, o, R, ee, q⟩ => by
  unfold sIf at ee
  obtain ⟨x, ex, ee⟩ := Option.bind_eq_some_iff.mp ee
  obtain ⟨k, ek, ee⟩ := Option.bind_eq_some_iff.mp ee
  have := toB_eq ek; subst this
  refine ⟨O0, O, r, k, R, ex, fun H1 s1 => ?_⟩
  cases k with
  | true => exact ⟨O0, O, r, o, R.mn s1, ee, q.later (Later.same s1)⟩
  | false => exact ⟨O0, O, r, o, R.mn s1, ee, q.later (Later.same s1)⟩
theorem xRaise {x : String} {m : Str} {j : Nat} {p p2 pos' pos : Pos} {C : Addr} {bmB : List Value} {B newId initId : String} (hc : X.calm = true) (tk : Takes X (fun cls d _ H => E cls d H)) (ed : ExcD X.K X.mg x C) (F : ExcBaseFacts B newId initId bmB) (q : PySem.W.excIn X.K C bmB newId = true) (hg : Gl X x) (hdb : ((x : Str) == ("__debug__" : Str)) = false := by decide) :
    PS X (.Raise (some (.Call (.Name x p) [.Constant (.str m) j p2] [] pos')) none pos) (tsX X.K X.mg E (sRaise x)) :=
  (ps_raise hc tk (pmk_own F q ed.gl ed.kp (raises_own ed.sb ed.ty) hg hdb)).imp fun D σ H ⟨O0, O, r, o, R, ee, qq⟩ => by
    cases ee
    exact qq O _ H ed.gl (Later.refl _ _ _)
end
/-! ### defs -/
def spX (K : PySem.W.Frag) (mg : Str → Option Value) (g : FX) : Sp := fun vs H Q E => ∃ O ds z, Trk O H ∧ RpAll K (hide O H) vs ds ∧ g ds = some z ∧
  (∀ d, z = .ok d → ∀ v H', Same H H' → Rp K (hide O H') v d → Q v H') ∧ (∀ c, z = .error c → ∀ V H', mg c = some V → Same H H' → E V none H')
section
variable {P : Program} {w : World} {K : PySem.W.Frag} {mg : Str → Option Value} {base : Heap} {x qual : Str} {params : Arguments} {body : List Stmt} {scope : Scope} {f : Addr} {fd : FuncData} {N ps : List Str} {k n p : Nat} {F : FS}
theorem fn_x (Fn : FunD K x qual params body scope [] [] f fd) (S : FnScope N ps scope) (hn : N.length = n) (hp : ps.length = p)
    (hb : ∀ (cdv : Value) (A : Around) (outer : List PySem.Env) (s : Shared) (H : Hp) (E : XK), Room k (A.deeper (envOfC qual scope s.heap.objs.size f cdv)) → PSs (cxOf (L2.CX P w) P w K mg base N qual scope f cdv A outer s H E) body (tsX K mg E F)) :
    FnOk P w K mg base (L2.CX P w) (k + 1) f fd ps (spX K mg (runX F n p)) := by
  subst hn hp
  refine Fn.ok S (fun vs H Q E h => ?_) (fun cdv A outer s H vs Q E hr h => ⟨_, hb cdv A outer s H E hr, ?_⟩)
  · obtain ⟨O, ds, z, t, h, e, q⟩ := h
    unfold runX at e
    split at e
    · rename_i hd
      rw [h.length]
      exact hd
    · cases e
  · obtain ⟨O, ds, z, t, h, e, q1, q2⟩ := h
    unfold runX at e
    split at e
    · obtain ⟨o, eo, e⟩ := Option.bind_eq_some_iff.mp e
      refine ⟨O, O, _, o, rep_start t h, eo, ?_⟩
      cases o with
      | rt d => cases e; exact fun O' v H' L rv => q1 _ rfl v H' (fun b o' h' => L.keep b o' (fun z => z) h') rv
      | nx r => cases e; exact fun O' σ' H' L R => q1 _ rfl _ H' (fun b o' h' => L.keep b o' (fun z => z) h') .non
      | bk r => cases e
      | ct r => cases e
      | exc c => cases e; exact fun O' V H' hV L => q2 _ rfl V H' hV (fun b o' h' => L.keep b o' (fun z => z) h')
      | rl xs =>
        cases e
        exact fun O' p ws H' L hp hn hs hw ra => q1 _ rfl _ H' (fun b o' h' => L.keep b o' (fun z => z) h') (.lst (Rd.of (hide_in hn hw)) (ra.mn (hide_less hs)))
    · cases e
/-- a def that keeps its promise, and may raise -/
def AvX (P : Program) (w : World) (K : PySem.W.Frag) (mg : Str → Option Value) (base : Heap) (x : Str) (ps : List Str) (k : Nat) (g : FX) : Prop :=
  ∃ (fa : Addr) (fd : FuncData), FnOk P w K mg base (L2.CX P w) k fa fd ps (spX K mg g) ∧ mg x = some (.ref fa) ∧ PySem.W.keepIn K (.ref fa) = true ∧ Binds K fd ps []
end
section
variable {X : Cx} {a : Expr} {es : List Expr} {t : FA} {k : Nat} {ps : List Str} {gg : FX} {x : Str} {p pos pos' : Pos} {E : XK}
/-- a call that may raise -/
def tCX (K : PySem.W.Frag) (mg : Str → Option Value) (gg : FX) (t : FA) (E : XK) : TE := fun σ H Q => ∃ O0 O r ds z, RepE K O0 O σ H r ∧ t r = some ds ∧ gg ds = some z ∧
  (∀ d, z = .ok d → ∀ v H', Same H H' → Rp K (hide O H') v d → Q v H') ∧ (∀ c, z = .error c → ∀ V H', mg c = some V → Same H H' → E V none H')
theorem eCallX (A : AvX X.prog X.w X.K X.mg X.base x ps k gg) (hr : Room k X.A) (hg : Gl X x) (tk : Takes X (fun cls d _ H => E cls d H))
    (ha : PA X (a :: es) (tDA X.K t)) (hdb : (x == ("__debug__" : Str)) = false := by decide) (he : starEach (a :: es) X.env = (false, eval a X.env) :: starEach es X.env := by rfl)
    (hpl : (backTo pos (starEach es X.env)).any (·.1) = false := by rfl) : PE X (.Call (.Name x p) (a :: es) [] pos) (tCX X.K X.mg gg t E) := by
  obtain ⟨fa, fd, F, gl, kp, bd⟩ := A
  refine (pe_callS (E := fun _ => E) F hr hg gl kp bd (fun σ => passAt tk σ) ha hdb he hpl).imp fun σ H Q ⟨O0, O, r, ds, z, R, e, ez, q1, q2⟩ => ?_
  refine ⟨O0, O, r, ds, R, e, fun vs H1 s1 ra => ⟨O, ds, z, R.trk.mn s1, ra, ez, fun d hd v H' s2 rv => q1 d hd v H' (s1.trans s2) rv, fun c hc V H' hV s2 => q2 c hc V H' hV (s1.trans s2)⟩⟩
theorem xCall (A : AvX X.prog X.w X.K X.mg X.base x ps k gg) (hr : Room k X.A) (hg : Gl X x) (tk : Takes X (fun cls d _ H => E cls d H))
    (ha : PA X (a :: es) (tDA X.K t)) (hs : swapsWith (.Call (.Name x p) (a :: es) [] pos) none pos'.line X.env = pure false := by rfl) (hdb : (x == ("__debug__" : Str)) = false := by decide) (he : starEach (a :: es) X.env = (false, eval a X.env) :: starEach es X.env := by rfl)
    (hpl : (backTo pos (starEach es X.env)).any (·.1) = false := by rfl) : PS X (.Expr (.Call (.Name x p) (a :: es) [] pos) pos') (tsX X.K X.mg E (sDropX gg t)) :=
  (ps_expr (eCallX A hr hg tk ha hdb he hpl) hs).imp fun D σ H ⟨O0, O, r, o, R, ee, q⟩ => by
    unfold sDropX at ee
    obtain ⟨ds, ed, ee⟩ := Option.bind_eq_some_iff.mp ee
    obtain ⟨z, ez, ee⟩ := Option.bind_eq_some_iff.mp ee
    refine ⟨O0, O, r, ds, z, R, ed, ez, fun d hd v H' s rv => ?_, fun c hc V H' hV s => ?_⟩
    · subst hd
      cases ee
      exact q O σ H' (Later.same s) (R.mn s)
    · subst hc
      cases ee
      exact q O V H' hV (Later.same s)
end
end BL

set_option Elab.async false
set_option linter.all false
set_option maxRecDepth 100000
/-! A caught exception that is kept behind the clause. -/
namespace BL
open PySem PySem.Spec PyProof.Rows L2
theorem exK_ok {P : Program} {w : World} {H : Hp} {h : Heap} {a : Addr} {cls : Value} {d : Option Addr} {u : Obj} {vs : Array Value} (e : h.get? a = some u) (z : Zc cls d u) (dt : u.data = .fields vs) : ObjOk P w H h a (ExK cls d a) :=
  ⟨⟨u, vs, e, z, dt⟩, ⟨u, e⟩, fun _ _ ⟨x, y, q, r⟩ k => ⟨x, y, k x q, r⟩⟩
section
variable {X : Cx} {pins : List (Addr × Obj)} {σ : L2.St} {H : Hp} {s : Shared}
/-- a pin that is new is tracked -/
theorem inv_track {a : Addr} {u : Obj} {vs : Array Value} {cls : Value} {d : Option Addr} (I : Inv X ((a, u) :: pins) σ H s) (z : Zc cls d u) (dt : u.data = .fields vs) (n0 : X.s_0.heap.get? a = none) (np : ∀ p ∈ X.pn ++ pins, p.1 ≠ a) :
    Inv X pins σ (upd H a (ExK cls d a)) s := by
  obtain ⟨g1, g2, g3, g4, g5⟩ := I.pin (a, u) (List.mem_append_right _ List.mem_cons_self)
  have sub : ∀ p ∈ X.pn ++ pins, p ∈ X.pn ++ (a, u) :: pins := fun p hp => (List.mem_append.mp hp).elim (List.mem_append_left _) fun h => List.mem_append_right _ (List.mem_cons_of_mem _ h)
  have B := I.base
  refine ⟨I.ok, I.os, I.bare, ⟨B.keep, B.slot, fun b o e n x => ?_, B.there, fun b xs e => ?_, fun b o xs e => ?_, fun b ps e => ?_⟩, I.loc, I.cell, ?_, fun y c e => ?_, fun p hp => ?_, ?_, I.len⟩
  · rw [upd_ne (fun w => by rw [w, n0] at e; cases e)]
    exact B.free b o e n x
  · have e1 := B.tups b xs e
    rw [upd_ne (ne_of_none e1 g2)]
    exact e1
  · have e1 := B.frzs b o xs e
    rw [upd_ne (ne_of_none e1 g2)]
    exact e1
  · obtain ⟨m, e1⟩ := B.tbls b ps e
    exact ⟨m, by rw [upd_ne (ne_of_none e1 g2)]; exact e1⟩
  · rw [upd_ne (fun w => g3 w.symm)]
    exact I.free
  · obtain ⟨v, o, ho, hd⟩ := I.cell y c e
    rw [upd_ne (fun w => by rw [w, g1] at ho; cases ho; exact g5 v hd)]
    exact I.freeC y c e
  · obtain ⟨p1, p2, p3⟩ := I.pin p (sub p hp)
    exact ⟨p1, by rw [upd_ne (np p hp)]; exact p2, p3⟩
  · exact I.hok.laidN (fun _ _ q => q) g2 (exK_ok g1 z dt)
end
/-- what the clause 'except x as n' wishes of an exception of the body, where the exception lives on -/
def wKeep (K : PySem.W.Frag) (n : Nat) (c : Value) (i : Nat) (ts : Addr → Value → Option Addr → TS) (Wout : WX) (D : Ends) : WX := fun cls d σ H => ∃ b, PySem.W.exmOne K cls c = some b ∧
  (b = true → ∀ a, H a = none → σ.length = n → ts a cls d { nx := fun σ1 H1 => D.nx (σ1.set i none) (upd H1 a (ExK cls d a)), rt := fun _ _ => False } (σ.set i (some (.ref a))) H) ∧ (b = false → Wout cls d σ H)
section
variable {X : Cx} {x n : Str} {c : Value} {i : Nat} {body suite : List Stmt} {b0 : Stmt} {q0 p0 p1 : Pos} {tb : WX → TS} {ts : Addr → Value → Option Addr → TS} {Wout : WX}
theorem ps_try_keep (hstk : X.stack = X.env :: X.outer) (hfrm : X.env.frame = some X.env.locals) (hex : X.ex = []) (nod : X.N.Nodup) (hix : X.N[i]? = some n) (hkd : X.env.kindOf n = some .local) (hnm : Names X x c) (tkO : Takes X Wout)
    (hbody : ∀ (W : WX) (pn : List (Addr × Obj)) (xe : Value → Shared → Prop), Takes (X.tr pn xe) W → PassesOwn (model X.prog X.w) X.A X.env xe → PSs (X.tr pn xe) body (tb W))
    (hsuite : ∀ (a : Addr) (u : Obj) (cls : Value) (d : Option Addr) (pn : List (Addr × Obj)), Zc cls d u → (∃ vs, u.data = .fields vs) → PSs (X.suite a ((a, u) :: pn)) (b0 :: suite) (ts a cls d)) :
    PS X (.Try body [.ExceptHandler (some (.Name x q0)) (some n) (b0 :: suite) p1] [] [] p0) (fun D σ H => tb (wKeep X.K X.N.length c i ts Wout D) D σ H) := by
  refine ⟨fun pins s σ H D I want => ?_⟩
  have okX := I.ok
  have frX : X.A.frames = some (X.env :: X.outer) := by
    rw [okX.frames]
    exact congrArg some hstk
  have lcX : Loc X.env.scope n := .inl hkd
  let after : Value → Shared → Prop := fun e r1 => wpAny (model X.prog X.w) X.A (noteFrame e X.env) (fun _ r2 => wpAny (model X.prog X.w) X.A (setFlight e none) (fun _ r3 =>
    wpAny (model X.prog X.w) X.A (handleBy e X.env [.ExceptHandler (some (.Name x q0)) (some n) (b0 :: suite) p1]) (SP X pins D) X.xe r3) X.xe r2) X.xe r1
  refine wpAny_Try_except ?_
  refine wpAny_mono ((hbody (wKeep X.K X.N.length c i ts Wout D) (X.pn ++ pins) after (fun u r xe1 => ?_) PassesOwn.looking).run [] s σ H D (I.toTry _) want) (fun fl r1 ends => ?_) (fun _ _ z => z)
  · obtain ⟨a, B, sI, pins', τ, G, cls, d, rfl, J0, notb, upS, sky0, aG, osE, agE, b, hb, yes, no⟩ := xe1
    have J : Inv X pins τ G sI := J0.ofTry okX
    have sky1 : Sky B (X.env :: X.outer) a (Zc cls d) X.env.locals r.heap := by
      have w := sky0
      rw [show (X.tr (X.pn ++ pins) after).stack = X.env :: X.outer from hstk] at w
      exact w
    show wpAny (model X.prog X.w) X.A (noteFrame (.ref a) X.env) _ _ _
    refine Sky.land Zc.steady frX hfrm sky1 fun g3 fly3 up3 => ?_
    have J3 : Inv X pins τ G { r with heap := g3 } := J.landed notb fly3.1 (upS.trans up3) osE agE
    obtain ⟨u3, w3, at3, z3, dt3⟩ := fly3.there
    have off : a ∉ frs (X.env :: X.outer) := fun hm => by
      obtain ⟨_, o', e', hnf⟩ := fly3.2.2.1.mem hm
      rw [at3] at e'
      cases e'
      exact hnf _ dt3
    have offL : a ≠ X.env.locals := fun z => off (List.mem_filterMap.mpr ⟨X.env, List.mem_cons_self, hfrm.trans (congrArg some z.symm)⟩)
    have offF : a ∉ X.fs := fun hm => by
      obtain ⟨e1, m1, f1⟩ := List.mem_filterMap.mp hm
      exact off (List.mem_filterMap.mpr ⟨e1, List.mem_cons_of_mem _ m1, f1⟩)
    have bN : B.get? a = none := fly3.2.1
    have sIn : sI.heap.get? a = none := by
      cases e : sI.heap.get? a with
      | none => rfl
      | some o =>
        rw [notb a o e (by rw [show (X.tr (X.pn ++ pins) after).stack = X.env :: X.outer from hstk]; exact off)] at bN
        cases bN
    have new0 : X.s_0.heap.get? a = none := by
      cases e : X.s_0.heap.get? a with
      | none => rfl
      | some o =>
        obtain ⟨o', e'⟩ := J.base.there a o e (by rw [hex]; simp)
        rw [sIn] at e'
        cases e'
    have newP : ∀ p ∈ X.pn ++ pins, p.1 ≠ a := fun p hp z => by
      have e' := (J.pin p hp).1
      rw [z, sIn] at e'
      cases e'
    have S3 := J3.suite at3 dt3 aG offL offF
    refine wpAny_handleBy_cons (codeAny_handlers_test ?_) (by intro q; cases q)
    have looksT : PySem.W.Looks (model X.prog X.w) g3 (typeOf (.ref a)) cls := fun A Q E s1 k q => wpAny_typeOf_ref (k _ _ at3) (by rw [z3.1]; exact q)
    have looksM := PySem.W.exm_one (M := model X.prog X.w) J3.kIn looksT hb
    have nameT : ∀ {Q : Value → Shared → Prop} {E : Value → Shared → Prop}, Q c { r with heap := g3 } → wpAny (model X.prog X.w) (X.A.mark (some (.ref a))) (eval (.Name x q0) X.env) Q E { r with heap := g3 } := fun {Q E} q => by
      obtain ⟨k1, k2, k3 | ⟨k3, k4, k5⟩⟩ := hnm
      · exact ld_glob (X := X.suite a ((a, u3) :: (X.pn ++ pins))) S3 k1 k3 q k2
      · exact ld_blt (X := X.suite a ((a, u3) :: (X.pn ++ pins))) S3 k1 k3 k4 q k5 k2
    refine nameT (looksM.here ?_)
    cases b with
    | true =>
      refine codeAny_handlers_suite_as ?_
      refine HandSPX.lands_againZ fly3 fun g4 fly4 up4 => ?_
      have J4 : Inv X pins τ G { r with heap := g4 } := J.landed notb fly4.1 ((upS.trans up3).trans up4) osE agE
      obtain ⟨u4, w4, at4, z4, dt4⟩ := fly4.there
      have S4 := J4.suite at4 dt4 aG offL offF
      refine store_ok (X := X.suite a ((a, u4) :: (X.pn ++ pins))) (v := .ref a) S4 nod hix lcX rfl (fun r5 S5 => ?_) (.inr hkd)
      refine wpAny_mono ((hsuite a u4 cls d (X.pn ++ pins) z4 ⟨_, dt4⟩).run [] r5 _ G _ S5 (yes rfl a aG J.len)) (fun fl r6 ends => ?_) (fun _ _ z => False.elim z)
      cases fl with
      | next =>
        obtain ⟨τ6, G6, S6, want6⟩ := ends
        have I6 : Inv X ((a, u4) :: pins) τ6 G6 r6 := ⟨okX, S6.os, S6.bare, S6.base, S6.loc, S6.cell, S6.free, S6.freeC, fun p hp => S6.pin p (by
          have : p = (a, u4) ∨ p ∈ X.pn ++ pins := by
            rcases List.mem_append.mp hp with h | h
            · exact .inr (List.mem_append_left _ h)
            · rcases List.mem_cons.mp h with h | h
              · exact .inl h
              · exact .inr (List.mem_append_right _ h)
          rcases this with h | h
          · exact List.mem_append_left _ (by rw [h]; exact List.mem_cons_self)
          · exact List.mem_append_left _ (List.mem_cons_of_mem _ h)), S6.hok, S6.len⟩
        refine gone_ok I6 nod hix hkd fun r7 I7 => ?_
        exact ⟨_, _, inv_track I7 z4 dt4 new0 newP, want6⟩
      | brk =>
        obtain ⟨_, _, _, z⟩ := ends
        exact z.elim
      | cont =>
        obtain ⟨_, _, _, z⟩ := ends
        exact z.elim
      | ret v =>
        obtain ⟨_, _, _, _, _, z⟩ := ends
        exact z.elim
    | false =>
      show wpAny _ X.A (handleBy (.ref a) X.env []) _ _ _
      refine wpAny_handleBy_nil ?_
      obtain ⟨k1, k2, k3, u, w, T, oT, tl, at1, zz, dt, h1, hr⟩ := id fly3
      unfold PySem.passOn
      refine wpAny_bind (wpAny_field at1 dt h1 ?_)
      rw [if_neg (show ¬ ((Value.ref T == Value.none) = true) by simp)]
      have go : wpAny (model X.prog X.w) X.A (setFlight (.ref a) X.env.frame) (fun _ r4 => wpAny (model X.prog X.w) X.A (throw (.ref a) : Sem Flow) (SP X pins D) X.xe r4) X.xe { r with heap := g3 } := by
        rw [hfrm]
        refine HandSPX.setFlight_upZ fly3 fun g4 hh4 up4 => wpAny_throw (tkO _ _ ?_)
        exact ⟨a, B, sI, pins, τ, G, cls, d, rfl, J, notb, (upS.trans up3).trans up4, .inr (.inr (by rw [hstk]; exact hh4)), aG, osE, agE, no rfl⟩
      first
        | exact wpAny_bind (wpAny_pure (wpAny_bind go))
        | exact wpAny_bind go
  · cases fl with
    | next =>
      obtain ⟨τ, G, J, want1⟩ := ends
      exact wpAny_execs_nil ⟨τ, G, J.ofTry okX, want1⟩
    | brk =>
      obtain ⟨τ, G, J, want1⟩ := ends
      exact ⟨τ, G, J.ofTry okX, want1⟩
    | cont =>
      obtain ⟨τ, G, J, want1⟩ := ends
      exact ⟨τ, G, J.ofTry okX, want1⟩
    | ret v =>
      obtain ⟨y, τ, G, J, rv, want1⟩ := ends
      exact ⟨y, τ, G, J.ofTry okX, rv, want1⟩
end
end BL

set_option Elab.async false
set_option linter.all false
set_option maxRecDepth 100000
/-! Defs that make lambdas: tables of code objects grow. -/
namespace BL
open PySem PySem.Spec PyProof.Rows L2 LamX
section
variable {K : PySem.W.Frag} {H H' : Hp}
theorem ext_hide {O : List Addr} (e : ExtN H H') : ExtN (hide O H) (hide O H') := fun b o h n => by
  unfold hide at h ⊢
  split at h
  · cases h
  · rename_i z
    rw [if_neg z]
    exact e b o h n
theorem ext_rd {a : Addr} {xs : List V} (e : ExtN H H') (h : Rd H a (.lst xs)) : Rd H' a (.lst xs) := by
  rcases h with h | ⟨o, h⟩
  · exact .inl (e a _ h fun _ z => by cases z)
  · exact .inr ⟨o, e a _ h fun _ z => by cases z⟩
theorem ext_rdt {a : Addr} {xs : List V} (e : ExtN H H') (h : Rd H a (.tup xs)) : Rd H' a (.tup xs) := by
  rcases h with h | ⟨o, h⟩
  · exact .inl (e a _ h fun _ z => by cases z)
  · exact .inr ⟨o, e a _ h fun _ z => by cases z⟩
theorem ext_l {a : Addr} {xs : List V} (e : ExtN H H') (h : SqL K H a xs) : SqL K H' a xs := by
  rcases h with h | h
  · exact .inl (ext_rd e h)
  · exact .inr h
theorem ext_t {a : Addr} {xs : List V} (e : ExtN H H') (h : SqT K H a xs) : SqT K H' a xs := by
  rcases h with h | h
  · exact .inl (ext_rdt e h)
  · exact .inr h
mutual
theorem Rp.ext (e : ExtN H H') : ∀ (d : Dt) (v : V), Rp K H v d → Rp K H' v d
  | .none, _, h => by cases h; exact .non
  | .bool b, _, h => by cases h; exact .bl b
  | .int i, _, h => by cases h; exact .int i
  | .str x, _, h => by cases h; exact .str x
  | .list ds, _, h => by
    cases h with
    | lst hs ha => exact .lst (ext_rd e hs) (RpAll.ext e ds _ ha)
  | .tuple ds, _, h => by
    cases h with
    | tup hs ha => exact .tup (ext_t e hs) (RpAll.ext e ds _ ha)
  | .dict _, _, h => by
    cases h with
    | dk0 hs => exact .dk0 (e _ _ hs fun _ z => by cases z)
theorem RpAll.ext (e : ExtN H H') : ∀ (ds : List Dt) (vs : List V), RpAll K H vs ds → RpAll K H' vs ds
  | [], _, h => by cases h; exact .nil
  | d :: ds, _, h => by
    cases h with
    | cons h1 h2 => exact .cons (Rp.ext e d _ h1) (RpAll.ext e ds _ h2)
end
theorem Rp.ex {v : V} {d : Dt} (h : Rp K H v d) (e : ExtN H H') : Rp K H' v d := Rp.ext e d v h
theorem RpAll.ex {vs : List V} {ds : List Dt} (h : RpAll K H vs ds) (e : ExtN H H') : RpAll K H' vs ds := RpAll.ext e ds vs h
end
/-- the tables are hidden, known, and all of them are ours -/
structure IT (T : List (Addr × Str)) (O0 : List Addr) (H : Hp) : Prop where
  hid : ∀ p ∈ T, p.1 ∈ O0
  tabs : Tabs T H
  all : ∀ p ∈ O0, ∀ ps, H p = some (.tbl ps) → p ∈ T.map (·.1)
theorem nt_of {H : Hp} {b : Addr} {u : HO} (h : H b = some u) (z : Pl u) : (∀ ps, u ≠ .tbl ps) ∧ ∀ φ, u ≠ .ext φ := by
  cases u <;> first | exact z.elim | exact ⟨fun _ q => (by cases q), fun _ q => (by cases q)⟩
section
variable {K : PySem.W.Frag} {T : List (Addr × Str)} {O0 O O' : List Addr} {σ σ' : L2.St} {H H' : Hp} {r r' : Env}
theorem IT.ext (t : IT T O0 H) (k : Trk O0 H) (e : ExtN H H') (tb : Tabs T H') : IT T O0 H' := ⟨t.hid, tb, fun p hp ps h => by
  obtain ⟨o, ho⟩ := k p hp
  by_cases z : ∃ q, o = .tbl q
  · obtain ⟨q, rfl⟩ := z
    exact t.all p hp q ho
  · have := e p o ho fun q w => z ⟨q, w⟩
    rw [h] at this
    cases this
    exact absurd ⟨ps, rfl⟩ z⟩
theorem RepE.trk0 (R : RepE K O0 O σ H r) : Trk O0 H := fun p hp => R.trk p (R.sub p hp)
theorem RepE0.ext (R : RepE0 K O0 O σ H r) (t : IT T O0 H) (e : ExtN H H') (tb : Tabs T H') : RepE0 K O0 O σ H' r where
  len := R.len
  dat := fun i d h => let ⟨v, h1, h2⟩ := R.dat i d h; ⟨v, h1, h2.ex (ext_hide e)⟩
  own := fun i xs h => let ⟨p, vs, h1, h2, h3, h4, h5⟩ := R.own i xs h; ⟨p, vs, h1, h2, h3, e _ _ h4 (fun _ z => by cases z), h5.ex (ext_hide e)⟩
  scr := fun i xs h => let ⟨p, vs, h1, h2, h3⟩ := R.scr i xs h; ⟨p, vs, h1, ext_l (ext_hide e) h2, h3.ex (ext_hide e)⟩
  exc := fun i c h => let ⟨p, C, h1, h2, h3⟩ := R.exc i c h; ⟨p, C, h1, h2, ext_hide e p _ h3 fun _ z => by unfold ExK at z; cases z⟩
  inj := R.inj
  trk := fun p hp => by
    obtain ⟨o, ho⟩ := R.trk p hp
    by_cases z : ∃ q, o = .tbl q
    · obtain ⟨q, rfl⟩ := z
      rcases R.nt p hp with h0 | ⟨u, hu, pl⟩
      · obtain ⟨x, hx, ex⟩ := List.mem_map.mp (t.all p h0 q ho)
        obtain ⟨ps, h1, _⟩ := tb x hx
        rw [ex] at h1
        exact ⟨_, h1⟩
      · rw [ho] at hu
        cases hu
        exact pl.elim
    · exact ⟨o, e p o ho fun q w => z ⟨q, w⟩⟩
  sub := R.sub
  nt := fun p hp => (R.nt p hp).imp id fun ⟨o, h, z⟩ => ⟨o, e p o h (nt_of h z).1, z⟩
theorem RepE.ext (R : RepE K O0 O σ H r) (t : IT T O0 H) (e : ExtN H H') (tb : Tabs T H') : RepE K O0 O σ H' r :=
  ⟨R.toRepE0.ext t e tb, R.bx.conv (fun _ h => h) (fun _ _ p o _ _ _ h b => e p o h fun ps z => by subst z; rcases b with ⟨_, _, _, w⟩ | ⟨_, w⟩ <;> cases w) fun ws xs h => h.ex (ext_hide e)⟩
/-- what a pure statement leaves of the tables -/
theorem IT.later (R : RepE K O0 O σ H r) (t : IT T O0 H) (L : Later O0 O H O' H') : IT T O0 H' := by
  refine ⟨t.hid, fun p hp => ?_, fun p hp ps h => ?_⟩
  · obtain ⟨ps, h1, h2, h3⟩ := t.tabs p hp
    refine ⟨ps, L.keep _ _ (fun _ => t.hid p hp) h1, h2, fun pos cv hc => ?_⟩
    obtain ⟨c, e1, e2⟩ := h3 pos cv hc
    refine ⟨c, e1, L.keep _ _ (fun hO => ?_) e2⟩
    rcases R.nt c hO with z | ⟨u, hu, pl⟩
    · exact z
    · rw [e2] at hu
      cases hu
      exact pl.elim
  · obtain ⟨o, ho⟩ := R.trk p (R.sub p hp)
    have := L.keep p o (fun _ => hp) ho
    rw [h] at this
    cases this
    exact t.all p hp ps ho
end
/-- Later, but for the tables -/
structure LaterL (O0 O : List Addr) (H : Hp) (O' : List Addr) (H' : Hp) : Prop where
  sub : ∀ p ∈ O, p ∈ O'
  new : ∀ p ∈ O', p ∈ O ∨ ∀ o, H p = some o → ∃ ps, o = .tbl ps
  keep : ∀ b o, (b ∈ O → b ∈ O0) → H b = some o → (∀ ps, o ≠ .tbl ps) → H' b = some o
section
variable {O0 O O1 O2 : List Addr} {H H1 H2 : Hp}
theorem Later.l (a : Later O0 O H O1 H1) : LaterL O0 O H O1 H1 := ⟨a.sub, fun p h => (a.new p h).imp id fun z o e => (by rw [z] at e; cases e), fun b o n h _ => a.keep b o n h⟩
theorem LaterL.ext (e : ExtN H H1) : LaterL O0 O H O H1 := ⟨fun _ h => h, fun _ h => .inl h, fun b o _ h n => e b o h n⟩
theorem LaterL.refl (O0 O : List Addr) (H : Hp) : LaterL O0 O H O H := (Later.refl O0 O H).l
theorem LaterL.trans (a : LaterL O0 O H O1 H1) (b : LaterL O0 O1 H1 O2 H2) : LaterL O0 O H O2 H2 where
  sub := fun p h => b.sub p (a.sub p h)
  new := fun p h => by
    rcases b.new p h with z | z
    · exact a.new p z
    · by_cases hO : p ∈ O
      · exact .inl hO
      · refine .inr fun o e => ?_
        by_cases w : ∃ q, o = .tbl q
        · exact w
        · exact z o (a.keep p o (fun y => absurd y hO) e fun q y => w ⟨q, y⟩)
  keep := fun c o n h nt => by
    refine b.keep c o (fun z => ?_) (a.keep c o n h nt) nt
    rcases a.new c z with y | y
    · exact n y
    · obtain ⟨q, e⟩ := y o h
      exact absurd e (nt q)
end
/-! ### readings -/
def PostL (K : PySem.W.Frag) (T : List (Addr × Str)) (O0 : List Addr) (D : Ends) (O : List Addr) (H : Hp) : SOut → Prop
  | .nx r => ∀ O' σ' H', LaterL O0 O H O' H' → RepE K O0 O' σ' H' r → IT T O0 H' → D.nx σ' H'
  | .rt d => ∀ O' v H', LaterL O0 O H O' H' → Rp K (hide O0 H') v d → Tabs T H' → D.rt v H'
  | .bk r => ∀ O' σ' H', LaterL O0 O H O' H' → RepE K O0 O' σ' H' r → IT T O0 H' → D.bk σ' H'
  | .ct r => ∀ O' σ' H', LaterL O0 O H O' H' → RepE K O0 O' σ' H' r → IT T O0 H' → D.ct σ' H'
  | .rl _ => False
  | .exc _ => False
theorem PostL.later {K : PySem.W.Frag} {T : List (Addr × Str)} {O0 : List Addr} {D : Ends} {O O' : List Addr} {H H' : Hp} (L : LaterL O0 O H O' H') : ∀ {o : SOut}, PostL K T O0 D O H o → PostL K T O0 D O' H' o
  | .nx r, q => fun O2 σ2 H2 L2 R => q O2 σ2 H2 (L.trans L2) R
  | .rt d, q => fun O2 v H2 L2 R => q O2 v H2 (L.trans L2) R
  | .bk r, q => fun O2 σ2 H2 L2 R => q O2 σ2 H2 (L.trans L2) R
  | .ct r, q => fun O2 σ2 H2 L2 R => q O2 σ2 H2 (L.trans L2) R
  | .rl d, q => q
  | .exc _, q => q
def tsL (K : PySem.W.Frag) (T : List (Addr × Str)) (F : FS) : TS := fun D σ H => ∃ O0 O r o, RepE K O0 O σ H r ∧ IT T O0 H ∧ F r = some o ∧ PostL K T O0 D O H o
def tEL (K : PySem.W.Frag) (T : List (Addr × Str)) (f : FE) : TE := fun σ H Q => ∃ O0 O r d, RepE K O0 O σ H r ∧ IT T O0 H ∧ f r = some d ∧ ∀ v H', ExtN H H' → Tabs T H' → Rp K (hide O H') v d → Q v H'
def tTL (K : PySem.W.Frag) (T : List (Addr × Str)) (f : FE) : TT := fun σ H Q => ∃ O0 O r b, RepE K O0 O σ H r ∧ IT T O0 H ∧ f r = some (.bool b) ∧ ∀ H', ExtN H H' → Tabs T H' → Q b H'
theorem same_ext {H H' : Hp} (e : Same H H') : ExtN H H' := fun b o h _ => e b o h
section
variable {X : Cx} {T : List (Addr × Str)} {st : Stmt} {rest body : List Stmt} {F G : FS} {f g : FE} {e c a b : Expr} {pos : Pos}
/-- a pure statement -/
theorem kLift (h : PS X st (tsD X.K F)) (hp : ∀ r xs, F r ≠ some (.rl xs)) (hx : PureS F) : PS X st (tsL X.K T F) := h.imp fun D σ H ⟨O0, O, r, o, R, t, e, q⟩ => ⟨O0, O, r, o, R, e, by
  cases o with
  | nx r1 => exact fun O' σ' H' L R' => q O' σ' H' L.l R' (t.later R L)
  | rt d => exact fun O' v H' L rv => q O' v H' L.l rv (t.later R L).tabs
  | bk r1 => exact fun O' σ' H' L R' => q O' σ' H' L.l R' (t.later R L)
  | ct r1 => exact fun O' σ' H' L R' => q O' σ' H' L.l R' (t.later R L)
  | rl xs => exact absurd e (hp r xs)
  | exc c => exact absurd e (hx r c)⟩
theorem kOne (h : PS X st (tsL X.K T F)) : PSs X [st] (tsL X.K T F) := pss_one h
theorem kNil : PSs X [] (tsL X.K T sNext) := pss_nil.imp fun D σ H ⟨O0, O, r, o, R, t, e, q⟩ => by
  cases e
  exact q O σ H (LaterL.refl _ O H) R t
theorem kSeq (h1 : PS X st (tsL X.K T F)) (h2 : PSs X rest (tsL X.K T G)) : PSs X (st :: rest) (tsL X.K T (sSeq F G)) := (pss_cons h1 h2).imp fun D σ H ⟨O0, O, r, o, R, t, e, q⟩ => by
  unfold sSeq at e
  obtain ⟨o1, e1, e⟩ := Option.bind_eq_some_iff.mp e
  refine ⟨O0, O, r, o1, R, t, e1, ?_⟩
  cases o1 with
  | nx r1 => exact fun O' σ' H' L R' t' => ⟨O0, O', r1, o, R', t', e, q.later L⟩
  | rt d => cases e; exact q
  | bk r1 => cases e; exact q
  | ct r1 => cases e; exact q
  | exc c => cases e; exact q
  | rl d => cases e; exact q
theorem kIf {a b : List Stmt} (hc : PT X c (tTL X.K T f)) (ha : PSs X a (tsL X.K T F)) (hb : PSs X b (tsL X.K T G)) : PS X (.If c a b pos) (tsL X.K T (sIf f F G)) := (ps_if hc ha hb).imp fun D σ H ⟨O0, O, r, o, R, t, ee, q⟩ => by
  unfold sIf at ee
  obtain ⟨x, ex, ee⟩ := Option.bind_eq_some_iff.mp ee
  obtain ⟨k, ek, ee⟩ := Option.bind_eq_some_iff.mp ee
  have := toB_eq ek; subst this
  refine ⟨O0, O, r, k, R, t, ex, fun H1 x1 tb => ?_⟩
  cases k with
  | true => exact ⟨O0, O, r, o, R.ext t x1 tb, t.ext R.trk0 x1 tb, ee, q.later (LaterL.ext x1)⟩
  | false => exact ⟨O0, O, r, o, R.ext t x1 tb, t.ext R.trk0 x1 tb, ee, q.later (LaterL.ext x1)⟩
/-- a pure expression -/
theorem eLift (h : PE X e (tD X.K f)) : PE X e (tEL X.K T f) := h.imp fun σ H Q ⟨O0, O, r, d, R, t, e, q⟩ => ⟨O0, O, r, d, R, e, fun v H' s rv => q v H' (same_ext s) (t.tabs.ext s) rv⟩
theorem tLift (h : PT X e (tDT X.K f)) : PT X e (tTL X.K T f) := h.imp fun σ H Q ⟨O0, O, r, d, R, t, e, q⟩ => ⟨O0, O, r, d, R, e, fun H' s => q H' (same_ext s) (t.tabs.ext s)⟩
/-- a comparison, the left side makes lambdas -/
theorem tCmpL {op : CmpOp} {o : Dt → Dt → Option Dt} (ho : OpR X (compareOp op) (rD X.K o)) (ha : PE X a (tEL X.K T f)) (hb : PE X b (tD X.K g)) (hm : behindInMarks op b = false) : PT X (.Compare a [op] [b] pos) (tTL X.K T (eOp o f g)) :=
  (pt_cmpR ho ha hb hm).imp fun σ H Q ⟨O0, O, r, d, R, t, e, q⟩ => by
    unfold eOp at e
    obtain ⟨x, ex, e⟩ := Option.bind_eq_some_iff.mp e
    obtain ⟨y, ey, e⟩ := Option.bind_eq_some_iff.mp e
    refine ⟨O0, O, r, x, R, t, ex, fun v H1 x1 tb r1 => ?_⟩
    have R1 := R.ext t x1 tb
    refine ⟨O0, O, r, y, R1, ey, fun w H2 s2 r2 => ⟨O, x, y, _, R1.trk.mn s2, r1.mn (hide_same s2), r2, e, fun z H3 s3 r3 => ?_⟩⟩
    exact ⟨d, rp_bl r3, q H3 (x1.trans (same_ext (s2.trans s3))) ((tb.ext s2).ext s3)⟩
end
end BL

set_option Elab.async false
set_option linter.all false
set_option maxRecDepth 100000
namespace BL
open PySem PySem.Spec PyProof.Rows L2 LamX
/-! ### loops over an enumerated list -/
theorem LaterL.weak {O0 O O' : List Addr} {H H' : Hp} (a : LaterL O0 O H O' H') : LaterL [] O H O' H' := ⟨a.sub, a.new, fun b o n h => a.keep b o (fun z => by cases n z) h⟩
theorem LaterL.hide {O0 O O' : List Addr} {H H' : Hp} (a : LaterL O0 O H O' H') : ExtN (hide O H) (hide O' H') := fun b o h n => by
  unfold BL.hide at h ⊢
  split at h
  · cases h
  · rename_i m
    rw [if_neg fun z => ?_]
    · exact a.keep b o (fun z => (m z).elim) h n
    · rcases a.new b z with y | y
      · exact m y
      · obtain ⟨ps, e⟩ := y o h
        exact n ps e
def WalksL (K : PySem.W.Frag) (J : It) (O : List Addr) (H : Hp) (xs : List Dt) : Prop := ∀ i O2 H2, LaterL [] O H O2 H2 → Trk O2 H2 →
  (xs.length ≤ i → J.stop i H2) ∧ (i < xs.length → J.go i H2 ∧ ∀ x H3, J.yld i H2 x H3 → Same H2 H3 ∧ ∀ d, xs[i]? = some d → Rp K (hide O2 H3) x d)
def iDL (K : PySem.W.Frag) (f : FA) : TI := fun σ H R => ∃ O0 O r xs, RepE K O0 O σ H r ∧ f r = some xs ∧ ∀ J H', Same H H' → WalksL K J O H' xs → R J H'
theorem walksL_enum {K : PySem.W.Frag} {O : List Addr} {H : Hp} {a : Addr} {vs : List V} {xs : List Dt} (h : Rd (hide O H) a (.lst vs)) (ha : RpAll K (hide O H) vs xs) : WalksL K (Ite K a) O H (enumD 0 xs) := fun i O2 H2 L t => by
  have q : SqL K H2 a vs := .inl (same_rd hide_sub (ext_rd L.hide h))
  have hl := ha.length
  rw [enumD_len]
  refine ⟨fun hi => ⟨vs, q, by omega⟩, fun hi => ⟨⟨vs, vs[i]'(by omega), q, by simp [hl, hi]⟩, fun x H3 y => ?_⟩⟩
  obtain ⟨T, v, e1, hT, e2, y⟩ := y
  subst e1 e2
  refine ⟨same_new hT, fun d hd => ?_⟩
  have hx : xs[i]? = some xs[i] := by simp [hi]
  rw [enumD_get 0 xs i _ hx] at hd
  cases hd
  obtain ⟨w, h1, h2⟩ := ha.get hx
  have := y vs q
  rw [h1] at this
  cases this
  refine rp_newT t hT (.cons ?_ (.cons (h2.ex L.hide) .nil))
  rw [Nat.zero_add]
  exact .int _
section
variable {X : Cx} {T : List (Addr × Str)} {tg a : Expr} {f : FE} {pos : Pos} {body : List Stmt} {F : FS}
theorem wEnumL {p tpos : Pos} {elts : List Expr} {kk : Nat} (hg : Gl X "enumerate") (hm : X.mg "enumerate" = none) (h : PE X a (tD X.K f)) (hs : starEach [a] X.env = [(false, eval a X.env)] := by rfl) : PI X (.Tuple elts kk tpos) (.Call (.Name "enumerate" p) [a] [] pos) (iDL X.K (BL.iEnum f)) :=
  (pi_enum hg hm (pa_cons h pa_nil hs) hs).imp fun σ H R ⟨O0, O, r, xs, E, e, q⟩ => by
    unfold BL.iEnum at e
    obtain ⟨x, ex, e⟩ := Option.bind_eq_some_iff.mp e
    split at e
    · cases e
      refine ⟨O0, O, r, _, E, ex, fun v H1 s1 r1 => ?_⟩
      cases r1 with
      | lst hs' ha => exact ⟨_, _, rfl, hl hs', q _ H1 s1 (walksL_enum hs' ha)⟩
    · cases e
theorem kFor {tg iter : Expr} {fi : FA} {g : TGD} {is : List Nat} (hp : PassesOwn (model X.prog X.w) X.A X.env X.xe) (hc : X.calm = true) (hi : PI X tg iter (iDL X.K fi)) (hg : PG X tg (tgD X.K g is)) (hb : PSs X body (tsL X.K T F))
    (hs : ∀ x, foldedSetIterable iter X.env x = pure x := by intro _; rfl) : PS X (.For tg iter body [] pos) (tsL X.K T (sFor fi g F)) := (ps_for hp hc hi hg hb hs).imp fun D σ H ⟨O0, O, r, o, R, t0, ee, q⟩ => by
  unfold sFor at ee
  obtain ⟨xs, exs, ee⟩ := Option.bind_eq_some_iff.mp ee
  refine ⟨O0, O, r, xs, R, exs, fun J H1 s1 Wk => ?_⟩
  have t1 := t0.ext R.trk0 (same_ext s1) (t0.tabs.ext s1)
  refine ⟨fun i m σ2 H2 => m = xs.length - i ∧ i ≤ xs.length ∧ ∃ O2 r2 o2, LaterL O0 O H1 O2 H2 ∧ RepE X.K O0 O2 σ2 H2 r2 ∧ IT T O0 H2 ∧ forGo g F (xs.drop i) r2 = some o2 ∧ PostL X.K T O0 D O2 H2 o2,
    ⟨xs.length, by omega, Nat.zero_le _, O, r, o, LaterL.refl _ _ _, R.mn s1, t1, by simpa using ee, q.later (LaterL.ext (same_ext s1))⟩, ?_⟩
  rintro i m σ2 H2 ⟨rfl, hi, O2, r2, o2, L, R2, t2, hgo, q2⟩
  obtain ⟨w1, w2⟩ := Wk i O2 H2 L.weak R2.trk
  by_cases hlt : i < xs.length
  · refine .inr ⟨(w2 hlt).1, _, fun σ' H' w => ⟨xs.length - (i + 1), by omega, w⟩, fun x H3 y => ?_⟩
    obtain ⟨s2, hx⟩ := (w2 hlt).2 x H3 y
    have hxi : xs[i]? = some xs[i] := by simp [hlt]
    rw [List.drop_eq_getElem_cons hlt] at hgo
    unfold forGo at hgo
    obtain ⟨r3, eg, hgo⟩ := Option.bind_eq_some_iff.mp hgo
    obtain ⟨o3, eb, hgo⟩ := Option.bind_eq_some_iff.mp hgo
    have t3 := t2.ext R2.trk0 (same_ext s2) (t2.tabs.ext s2)
    refine ⟨O0, O2, r2, _, r3, R2.mn s2, hx _ hxi, eg, fun σ' R3 _ => ⟨O0, O2, r3, o3, R3, t3, eb, ?_⟩⟩
    have L3 : LaterL O0 O H1 O2 H3 := L.trans (LaterL.ext (same_ext s2))
    have q3 := q2.later (LaterL.ext (O := O2) (same_ext s2))
    cases o3 with
    | nx r4 => exact fun O' σ'' H' L' R' t' => ⟨rfl, hlt, O', r4, o2, L3.trans L', R', t', hgo, q3.later L'⟩
    | ct r4 => exact fun O' σ'' H' L' R' t' => ⟨rfl, hlt, O', r4, o2, L3.trans L', R', t', hgo, q3.later L'⟩
    | bk r4 => cases hgo; exact q3
    | rt d => cases hgo; exact q3
    | exc c => cases hgo; exact q3
    | rl d => cases hgo; exact q3
  · refine .inl ⟨w1 (by omega), ?_⟩
    rw [List.drop_eq_nil_of_le (by omega)] at hgo
    unfold forGo at hgo
    cases hgo
    exact q2 O2 σ2 H2 (LaterL.refl _ _ _) R2 t2
/-! ### own lists -/
/-- x = [e], x of its own -/
theorem kOwn1 {i : Nat} {x : Str} {pos' lp : Pos} {e : Expr} (h : PS X (.Assign [.Name x pos'] (.List [e] lp) pos) (tAsg (tLst (tCons (tEL X.K T f) tNil)) (gName i))) : PS X (.Assign [.Name x pos'] (.List [e] lp) pos) (tsL X.K T (sOwn i (aCons f aNil))) := h.imp fun D σ H ⟨O0, O, r, o, R, t, ee, q⟩ => by
  unfold sOwn aCons aNil at ee
  obtain ⟨ys, ey, ee⟩ := Option.bind_eq_some_iff.mp ee
  obtain ⟨y, ey1, ey⟩ := Option.bind_eq_some_iff.mp ey
  cases ey
  cases ee
  refine ⟨O0, O, r, y, R, t, ey1, fun v H1 x1 tb rv => ⟨sizeOk_le (n := 1) rfl, fun q0 hq => ?_⟩⟩
  have R1 := R.ext t x1 tb
  have t1 := t.ext R.trk0 x1 tb
  have hs := same_new (o := .lst [v]) hq
  exact q _ _ _ ((LaterL.ext x1).trans (later_new hq hs).l) (R1.newOwn hq hs upd_same (.cons (rv.mn (hide_new hq hs)) .nil)) (t1.later R1 (later_new hq hs))
theorem kApp {i : Nat} {x : Str} {p apos pos' : Pos} (hx : PE X (.Name x p) (tVar i)) (ha : PE X a (tEL X.K T f)) (hs : starEach [a] X.env = (false, eval a X.env) :: starEach [] X.env := by rfl)
    (hbase : attributeBase (.Name x p) "append" X.env (eval (.Name x p) X.env) = eval (.Name x p) X.env := by rfl)
    (hfew : ((backTo pos (starEach [a] X.env)).all (fun x => !x.1) && (backToKw pos (keywordEach [] X.env)).all (fun x => x.1.isSome)
      && decide ([a].length + ([] : List Keyword).length + (if ([] : List Keyword).isEmpty then 0 else 1) < 30)) = true := by rfl)
    (hline : (apos.endLine == pos.line) = true := by rfl) (hplain : (backTo pos (starEach [] X.env)).any (·.1) = false := by rfl)
    (hsw : swapsWith (.Call (.Attribute (.Name x p) "append" apos) [a] [] pos) none pos'.line X.env = pure false := by rfl) :
    PS X (.Expr (.Call (.Attribute (.Name x p) "append" apos) [a] [] pos) pos') (tsL X.K T (sDropM (mApp i f))) :=
  (ps_expr (pe_bm PySem.F.plainAttrs_list PySem.F.slot_list_append PySem.F.type_list_append mo_append hx (pa_cons ha pa_nil hs) hbase hfew hline hs hplain) hsw).imp fun D σ H ⟨O0, O, r, o, R, t, e, q⟩ => by
    unfold sDropM mApp at e
    obtain ⟨z, e, e9⟩ := Option.bind_eq_some_iff.mp e
    obtain ⟨y, ey, e⟩ := Option.bind_eq_some_iff.mp e
    split at e
    · rename_i xs hi
      split at e
      · rename_i hz
        cases e
        cases e9
        obtain ⟨q0, vs, h1, h2, h3, h4, h5⟩ := R.own i xs hi
        refine ⟨_, h1, .inl ⟨rfl, vs, .inl (.of h4)⟩, O0, O, r, y, R, t, ey, fun w H1 x1 tb rw' => ?_⟩
        have R1 := R.ext t x1 tb
        have t1 := t.ext R.trk0 x1 tb
        have h4' := x1 _ _ h4 fun _ z => by cases z
        have hl := h5.length
        refine ⟨q0, vs, w, rfl, rfl, h4', by rw [hl]; exact sizeOk_lt hz, ?_⟩
        have U := R1.upOwn hi h1 h2 h3 ((h5.ex (ext_hide x1)).append (.cons rw' .nil))
        have L := later_upd (O0 := O0) (o := .lst (vs ++ [w])) h2 h3 ⟨_, h4'⟩
        exact q O _ _ ((LaterL.ext x1).trans L.l) U (t1.later R1 L)
      · cases e
    · cases e
end
end BL

set_option Elab.async false
set_option linter.all false
set_option maxRecDepth 100000
namespace BL
open PySem PySem.Spec PyProof.Rows L2 LamX
/-! ### kept = None / try: deed() / except X as e: kept = e / return kept -/
def TKept (K : PySem.W.Frag) (CS : Addr) : (XK → Hp → VK → Prop) → Hp → VK → Prop := fun tl H Q =>
  tl (fun cls d H1 => PySem.W.exmOne K cls (.ref CS) = some true ∧ ∀ a, H1 a = none → Q (.ref a) (upd H1 a (ExK cls d a))) H (fun _ H1 => Q .non H1)
def keptBody (x1 x2 x3 c : Str) (j : Nat) (p1 p2 p3 p4 p5 p6 p7 p8 p9 p10 p11 p12 p13 p14 : Pos) : List Stmt :=
  [.Assign [.Name x2 p1] (.Constant .none j p2) p3,
   .Try [.Expr (.Call (.Name x1 p4) [] [] p5) p6] [.ExceptHandler (some (.Name c p7)) (some x3) [.Assign [.Name x2 p8] (.Name x3 p9) p10] p11] [] [] p12,
   .Return (some (.Name x2 p13)) p14]
section
variable {X : Cx}
theorem kept_gives {x c q x1 x2 x3 : Str} {sg : Scope} {g CS : Addr} {cdg : Value} {j : Nat} {p1 p2 p3 p4 p5 p6 p7 p8 p9 p10 p11 p12 p13 p14 : Pos} (hsc : sg.names = [(x1, .local), (x2, .local), (x3, .local), (c, .globalImplicit)]) (nd : [x1, x2, x3].Nodup) (hkind : sg.kind = .function)
    (hgc : sg.names.lookup c = some .globalImplicit) (hme : X.mg c = some (.ref CS)) (hdc : (c == ("__debug__" : Str)) = false) (hl1 : sg.names.lookup x1 = some .local) (hl2 : sg.names.lookup x2 = some .local) (hl3 : sg.names.lookup x3 = some .local)
    (d2 : (x2 == ("__debug__" : Str)) = false) (d3 : (x3 == ("__debug__" : Str)) = false) (e2 : (x2 == ("__classdict__" : Str)) = false) (e3 : (x3 == ("__classdict__" : Str)) = false) :
    GivesTo X [x1, x2, x3] x sg g cdg (keptBody x1 x2 x3 c j p1 p2 p3 p4 p5 p6 p7 p8 p9 p10 p11 p12 p13 p14) x1 q (TKept X.K CS) := by
  intro f c' s H Q tl act hc h
  have hgl : Gl (cxOf C8.CX0 X.prog X.w X.K X.mg X.base [x1, x2, x3] x sg g cdg X.A X.stack s H C8.E0).nox c := hgc
  refine ⟨_, pss_cons (ps_set (i := 1) nd rfl (.inl hl2) pe_non rfl (.inr hl2)) (pss_cons (ps_try_keep (X := (cxOf C8.CX0 X.prog X.w X.K X.mg X.base [x1, x2, x3] x sg g cdg X.A X.stack s H C8.E0).nox) (c := .ref CS) (i := 2) (Wout := fun _ _ _ _ => False)
      (tb := fun W D σ H => ∃ Ech : XK, (∀ cls d σ' H', Ech cls d H' → W cls d σ' H') ∧ σ[0]? = some (some (.ref f)) ∧ H c' = some (CodeO c' q) ∧ tl Ech H (fun _ H' => D.nx σ H'))
      (ts := fun a cls d => tAsg (tVar 2) (gName 1))
      rfl rfl rfl nd rfl hl3 ⟨hgl, hdc, .inl hme⟩ LamX.takes0 (fun W pn xe tk _ => ?_) (fun a oe cls d pn _ _ => pss_one (ps_set (i := 1) nd rfl (.inl hl2) (pe_var (i := 2) rfl (.inl hl3) d3 e3) rfl (.inr hl2)))) (pss_one (ps_ret (pe_var (i := 1) rfl (.inl hl2) d2 e2)))), ?_⟩
  · refine ⟨fun pins s' σ H' D I h' => ?_⟩
    obtain ⟨Ech, hW, h1, h2, h3⟩ := h'
    have hp := act W pn xe Ech p4 p5 tk hW
    have hq := pss_one (ps_expr (pos := p6) hp)
    exact hq.run pins s' σ H' D I ⟨h1, h2, h3⟩
  · refine ⟨fun cls d H1 => PySem.W.exmOne X.K cls (.ref CS) = some true ∧ ∀ a, H1 a = none → Q (.ref a) (upd H1 a (ExK cls d a)), fun cls d σ' H' ⟨k1, k2⟩ => ⟨true, k1, fun _ a ha hlen => ?_, fun z => by cases z⟩, rfl, hc, ?_⟩
    · have hlen : σ'.length = 3 := hlen
      obtain ⟨y1, y2, y3, rfl⟩ : ∃ y1 y2 y3, σ' = [y1, y2, y3] := by
        match σ', hlen with
        | [y1, y2, y3], _ => exact ⟨_, _, _, rfl⟩
      exact ⟨.ref a, rfl, .ref a, rfl, k2 a ha⟩
    · refine (congrArg (tl _ H) (funext fun _ => funext fun H1 => propext ⟨?_, ?_⟩)).mpr h
      · rintro ⟨v, e, z⟩
        cases e
        exact z
      · exact fun z => ⟨.non, rfl, z⟩
end
end BL

set_option Elab.async false
set_option linter.all false
set_option maxRecDepth 100000
/-! A kept exception asked for its class. -/
namespace BL
open PySem PySem.Spec PyProof.Rows L2
@[simp] def eIsX (tab : String → Option Bool) (i : Nat) (r : Env) : Option Dt := match r[i]? with
  | some (some (.exc c)) => (tab c).map .bool
  | _ => none
@[simp] def eIsNone (i : Nat) (r : Env) : Option Dt := match r[i]? with
  | some (some (.d .none)) => some (.bool true)
  | some (some (.exc _)) => some (.bool false)
  | _ => none
/-- the class that a name names, and which of the exceptions c are of it -/
def KitT (K : PySem.W.Frag) (cv : Value) (tab : String → Option Bool) : Prop := ∀ c b, tab c = some b → ∀ D, ClsK K c D → ExcC K D ∧ PySem.W.kitOne K (.ref D) cv = some b
def rExK (K : PySem.W.Frag) : List V → Hp → VK → Prop := fun xs H Q => ∃ (a D : Addr) (c : V) (cv : Value) (b : Bool), xs = [.ref a, c] ∧ (∀ u, RelV c u → u = cv) ∧ H a = some (ExK (.ref D) none a) ∧ ExcC K D ∧ PySem.W.kitOne K (.ref D) cv = some b ∧ Q (.bl b) H
section
variable {X : Cx}
theorem call_isK : CallR X (.builtin "isinstance") (rExK X.K) := by
  intro pins s σ H xs us Q I r h
  obtain ⟨a, D, c, cv, b, rfl, hcv, ha, C, e, q⟩ := h
  cases r with
  | cons rx rr =>
    cases rr with
    | cons rt rr =>
      cases rr
      cases rx
      have ec := hcv _ rt
      subst ec
      obtain ⟨⟨u, vs, g, z, dt⟩, _, _⟩ := I.hok a _ ha
      have J : PySem.W.InstAt s.heap a u D none := by
        obtain ⟨oc, od, oda, osl⟩ := u
        obtain ⟨h1, h2⟩ := z
        dsimp only at h1 h2 dt
        subst h1 h2 dt
        exact ⟨g, rfl, rfl, trivial⟩
      exact PySem.W.kia_one (PySem.W.handS_kitx_exc C.hg C.hk C.hs C.hd C.ha C.hn C.ht C.hm) I.kIn J e (fun z => nomatch z) fun tk => ⟨.bl b, H, I.kept (t' := tk) fun _ _ z => z, rfl, q⟩
theorem isX_imp {tab : String → Option Bool} {i : Nat} {v : V} {cv : Value} (hcv : ∀ u, RelV v u → u = cv) (k : KitT X.K cv tab) {σ : L2.St} {H : Hp} {Q : VK} (q : tD X.K (eIsX tab i) σ H Q) : tCB (rExK X.K) (tCons (tVar i) (tCons (tC v) tNil)) σ H Q := by
  obtain ⟨O0, O, r, d, R, e, q⟩ := q
  unfold eIsX at e
  split at e
  · rename_i c hc
    obtain ⟨b, hb, e⟩ := Option.map_eq_some_iff.mp e
    subst e
    obtain ⟨a, D, h1, h2, h3⟩ := R.exc i c hc
    obtain ⟨k1, k2⟩ := k c b hb D h2
    exact ⟨_, h1, a, D, v, cv, b, rfl, hcv, hide_sub _ _ h3, k1, k2, q _ H (Same.refl H) (.bl b)⟩
  · cases e
/-- isinstance(e, X), X of the module -/
theorem dIsX {tab : String → Option Bool} {i : Nat} {x n : Str} {C : Addr} {p q q2 pos : Pos} (hx : PE X (.Name x q) (tVar i)) (hg : Gl X "isinstance") (hm : X.mg "isinstance" = none) (hgn : Gl X n) (hmn : X.mg n = some (.ref C)) (k : KitT X.K (.ref C) tab) (hd : (n == ("__debug__" : Str)) = false := by decide)
    (he : starEach (.Name x q :: [.Name n q2]) X.env = (false, eval (.Name x q) X.env) :: starEach [.Name n q2] X.env := by rfl) (he2 : starEach [.Name n q2] X.env = (false, eval (.Name n q2) X.env) :: starEach [] X.env := by rfl) (hpl : (backTo pos (starEach [.Name n q2] X.env)).any (·.1) = false := by rfl) :
    PE X (.Call (.Name "isinstance" p) [.Name x q, .Name n q2] [] pos) (tD X.K (eIsX tab i)) :=
  (pe_callB call_isK hg hm (by decide +kernel) (pa_cons hx (pa_cons (pe_glob (v := .ref C) hgn hmn rfl hd) pa_nil he2) he) (by decide) (by decide) he hpl).imp fun σ H Q q => isX_imp (v := .ref C) (cv := .ref C) (fun u h => h) k q
/-- isinstance(e, T), T a built-in type -/
theorem dIsXT {tab : String → Option Bool} {i : Nat} {x n : Str} {T : String} {p q q2 pos : Pos} (hx : PE X (.Name x q) (tVar i)) (hg : Gl X "isinstance") (hm : X.mg "isinstance" = none) (hgn : Gl X n) (hmn : X.mg n = none) (hb : bootBuiltins n = some (.type T)) (k : KitT X.K (.type T) tab) (hn : n ≠ "__name__" := by decide) (hd : (n == ("__debug__" : Str)) = false := by decide)
    (he : starEach (.Name x q :: [.Name n q2]) X.env = (false, eval (.Name x q) X.env) :: starEach [.Name n q2] X.env := by rfl) (he2 : starEach [.Name n q2] X.env = (false, eval (.Name n q2) X.env) :: starEach [] X.env := by rfl) (hpl : (backTo pos (starEach [.Name n q2] X.env)).any (·.1) = false := by rfl) :
    PE X (.Call (.Name "isinstance" p) [.Name x q, .Name n q2] [] pos) (tD X.K (eIsX tab i)) :=
  (pe_callB call_isK hg hm (by decide +kernel) (pa_cons hx (pa_cons (pe_bltn (v := .ty T) hgn hmn hb rfl hn hd) pa_nil he2) he) (by decide) (by decide) he hpl).imp fun σ H Q q => isX_imp (v := .ty T) (cv := .type T) (fun u h => h) k q
/-- e is None -/
theorem tIsN_ {i : Nat} {x : Str} {p pos p2 : Pos} {j : Nat} (hx : PE X (.Name x p) (tVar i)) : PT X (.Compare (.Name x p) [.Is] [.Constant .none j p2] pos) (tDT X.K (eIsNone i)) :=
  (pt_cmpR op_isN hx pe_non (by rfl)).imp fun σ H Q ⟨O0, O, r, b, R, e, q⟩ => by
    unfold eIsNone at e
    split at e
    · rename_i h
      cases e
      obtain ⟨v, h1, h2⟩ := R.dat i _ h
      cases h2
      exact ⟨_, h1, rfl, true, rfl, q H (Same.refl H)⟩
    · rename_i c h
      cases e
      obtain ⟨a, D, h1, h2, h3⟩ := R.exc i c h
      exact ⟨_, h1, rfl, false, rfl, q H (Same.refl H)⟩
    · cases e
end
/-! ### a def that is asked of a kept exception or of None -/
/-- what kept gives: none, or an exception -/
def RpK (K : PySem.W.Frag) (H : Hp) (v : V) : Option String → Prop
  | none => v = .non
  | some c => ∃ a C, v = .ref a ∧ ClsK K c C ∧ H a = some (ExK (.ref C) none a)
def slK : Option String → Sl
  | none => .d .none
  | some c => .exc c
def spW (K : PySem.W.Frag) (g : Option String → Option Dt) : Sp := fun vs H Q _ => ∃ O v c z, vs = [v] ∧ Trk O H ∧ RpK K (hide O H) v c ∧ g c = some z ∧ ∀ v H', Same H H' → Rp K (hide O H') v z → Q v H'
def runW (F : FS) (N : Nat) (c : Option String) : Option Dt := (F (some (slK c) :: List.replicate (N - 1) none)).bind fun o => match o with
  | .rt d => some d
  | _ => none
section
variable {P : Program} {w : World} {K : PySem.W.Frag} {mg : Str → Option Value} {base : Heap} {x qual : Str} {params : Arguments} {body : List Stmt} {scope : Scope} {f : Addr} {fd : FuncData} {N : List Str} {k n : Nat} {F : FS}
theorem fn_word (Fn : FunD K x qual params body scope [] [] f fd) {sn : Str} (S : FnScope N [sn] scope) (hn : N.length = n)
    (hb : ∀ (cdv : Value) (A : Around) (outer : List PySem.Env) (s : Shared) (H : Hp) (E : XK), Room k (A.deeper (envOfC qual scope s.heap.objs.size f cdv)) → PSs (cxOf CX0 P w K mg base N qual scope f cdv A outer s H E).nox body (tsD K F)) :
    FnOk P w K mg base CX0 (k + 1) f fd [sn] (spW K (runW F n)) := by
  subst hn
  refine Fn.ok S (fun vs H Q E h => ?_) (fun cdv A outer s H vs Q E hr h => ⟨_, (hb cdv A outer s H E hr).nox, ?_⟩)
  · obtain ⟨O, v, c, z, rfl, _⟩ := h; rfl
  · obtain ⟨O, v, c, z, rfl, t, hc, e, q⟩ := h
    unfold runW at e
    obtain ⟨o, eo, e⟩ := Option.bind_eq_some_iff.mp e
    have g0 : ∀ (i : Nat) s, ((some (slK c) :: List.replicate (N.length - 1) none : BL.Env))[i]? = some (some s) → i = 0 ∧ s = slK c := fun i s e => by
      cases i with
      | zero => simp at e; exact ⟨rfl, e.symm⟩
      | succ i =>
        rw [List.getElem?_cons_succ, List.getElem?_replicate] at e
        split at e <;> cases e
    refine ⟨O, O, _, o, ⟨⟨?_, fun i d e => ?_, fun i xs e => ?_, fun i xs e => ?_, fun i c2 e => ?_, fun i j p xs ys _ e => ?_, t, fun p h => h, fun p h => .inl h⟩, RepB.none fun i s e => by rw [(g0 i s e).2]; cases c <;> rfl⟩, eo, ?_⟩
    · unfold L2.start
      simp
    · obtain ⟨rfl, e1⟩ := g0 i _ e
      cases c with
      | none => cases e1; exact ⟨v, rfl, by rw [show v = V.non from hc]; exact .non⟩
      | some c => cases e1
    · obtain ⟨_, e1⟩ := g0 i _ e; cases c <;> cases e1
    · obtain ⟨_, e1⟩ := g0 i _ e; cases c <;> cases e1
    · obtain ⟨rfl, e1⟩ := g0 i _ e
      cases c with
      | none => cases e1
      | some c =>
        cases e1
        obtain ⟨a, C, h1, h2, h3⟩ := hc
        subst h1
        exact ⟨a, C, rfl, h2, h3⟩
    · obtain ⟨_, e1⟩ := g0 i _ e; cases c <;> cases e1
    · cases o with
      | rt d => cases e; exact fun O' v H' L rv => q v H' (fun b o' h' => L.keep b o' (fun z => z) h') rv
      | nx r => cases e
      | bk r => cases e
      | ct r => cases e
      | exc c => cases e
      | rl xs => cases e
end
end BL

set_option Elab.async false
set_option linter.all false
set_option maxRecDepth 100000
/-! word(kept(lambda: f(..))). -/
namespace BL
open PySem PySem.Spec PyProof.Rows L2 LamX
@[simp] def eKW (okC : String → Bool) (W : Option String → Option Dt) (gg : FX) (t : FA) (r : Env) : Option Dt := (t r).bind fun ds => (gg ds).bind fun z => match z with
  | .ok _ => W none
  | .error c => if okC c = true then W (some c) else none
/-- the exceptions that are kept -/
def KeepT (K : PySem.W.Frag) (mg : Str → Option Value) (CS : Addr) (okC : String → Bool) : Prop := ∀ c, okC c = true → ∀ V, mg c = some V → ∃ C, V = .ref C ∧ ClsK K c C ∧ PySem.W.exmOne K (.ref C) (.ref CS) = some true
/-- the name of a lambda of a def -/
def lamQ (q : Str) : Str := q ++ "<lambda>"
def AvW (P : Program) (w : World) (K : PySem.W.Frag) (mg : Str → Option Value) (base : Heap) (x : Str) (ps : List Str) (k : Nat) (g : Option String → Option Dt) : Prop :=
  ∃ (fa : Addr) (fd : FuncData), FnOk P w K mg base CX0 k fa fd ps (spW K g) ∧ mg x = some (.ref fa) ∧ PySem.W.keepIn K (.ref fa) = true ∧ Binds K fd ps []
/-- the def that keeps -/
structure KeptD (K : PySem.W.Frag) (mg : Str → Option Value) (x x1 x2 x3 c : Str) (st : Stmt) (CS : Addr) : Prop where
  def_ : DefAt K mg x st [x1]
  sc : FnScope [x1, x2, x3] [x1] (defScope st)
  body : ∃ (j : Nat) (p1 p2 p3 p4 p5 p6 p7 p8 p9 p10 p11 p12 p13 p14 : Pos), defBody st = keptBody x1 x2 x3 c j p1 p2 p3 p4 p5 p6 p7 p8 p9 p10 p11 p12 p13 p14
  names : (defScope st).names = [(x1, .local), (x2, .local), (x3, .local), (c, .globalImplicit)]
  gc : (defScope st).names.lookup c = some .globalImplicit
  l1 : (defScope st).names.lookup x1 = some .local
  l2 : (defScope st).names.lookup x2 = some .local
  l3 : (defScope st).names.lookup x3 = some .local
  cls : mg c = some (.ref CS)
  dc : (c == ("__debug__" : Str)) = false
  d1 : (x1 == ("__debug__" : Str)) = false
  d2 : (x2 == ("__debug__" : Str)) = false
  d3 : (x3 == ("__debug__" : Str)) = false
  e1 : (x1 == ("__classdict__" : Str)) = false
  e2 : (x2 == ("__classdict__" : Str)) = false
  e3 : (x3 == ("__classdict__" : Str)) = false
section
variable {X : Cx} {T : List (Addr × Str)} {okC : String → Bool} {W : Option String → Option Dt} {gg : FX} {t : FA} {x xw x1 x2 x3 cn : Str} {stK : Stmt} {CS c P : Addr} {k kw : Nat} {psw : List Str} {params : Arguments} {body : Expr} {scope : Scope} {pk lpos ck pw cw : Pos}
theorem dKW (A : AvW X.prog X.w X.K X.mg X.base xw psw kw W) (hrw : Room kw X.A) (hgw : Gl X xw) (KD : KeptD X.K X.mg x x1 x2 x3 cn stK CS) (hg : Gl X x) (KT : KeepT X.K X.mg CS okC)
    (TB : TabB X.base X.mg c P) (hcode : X.env.code = .ref c) (hmT : (P, lamQ X.env.qual) ∈ T) (hu : ∀ p ∈ T, p.1 = P → p.2 = lamQ X.env.qual) (hr : Room (k + 2) X.A) (L : LamS X.env.scope scope) (hdef : defaultsOf params X.env = ([], []))
    (hbind : ∀ (q : Str) (cl : List (Str × Addr)) (pm cv ctv : Value), bindArgs (PySem.W.kla_fn "<lambda>" q params body scope cl pm cv ctv) ⟨[], []⟩ = pure [])
    (hbody : ∀ (A : Around) (outer : List PySem.Env) (s : Shared) (H : Hp) (E : XK) (f c' : Addr), Room k (A.deeper (lamEnv X scope s.heap.objs.size f c')) → PE (lamCx X A outer s H E scope f c') body (tCX X.K X.mg gg t E))
    (hdb : (x == ("__debug__" : Str)) = false := by decide) (hdw : (xw == ("__debug__" : Str)) = false := by decide)
    (he : starEach [.Call (.Name x pk) [.Lambda params body scope lpos] [] ck] X.env = (false, eval (.Call (.Name x pk) [.Lambda params body scope lpos] [] ck) X.env) :: starEach [] X.env := by rfl) (hpl : (backTo cw (starEach [] X.env)).any (·.1) = false := by rfl) :
    PE X (.Call (.Name xw pw) [.Call (.Name x pk) [.Lambda params body scope lpos] [] ck] [] cw) (tEL X.K T (eKW okC W gg t)) := by
  obtain ⟨⟨g, fd, Fn, hm, hb⟩, Sg, ⟨j, p1, p2, p3, p4, p5, p6, p7, p8, p9, p10, p11, p12, p13, p14, eb⟩, nm, gc, l1, l2, l3, cls, dc, d1, d2, d3, e1, e2, e3⟩ := KD
  obtain ⟨fw, fdw, Fw, hmw, hkw, hbw⟩ := A
  obtain ⟨oc, od, dV, kV, doc, pm, an, cdv, ct, osl, rfl, lk, hcd, _, _⟩ := id Fn.ex
  have G : GivesTo X [x1, x2, x3] x (defScope stK) g cdv (defBody stK) x1 (X.env.qual ++ "<lambda>") (TKept X.K CS) := by
    rw [eb]
    exact kept_gives nm Sg.nd Sg.kind gc cls dc l1 l2 l3 d2 d3 e2 e3
  have hk := pe_lamcall (p := pk) (lpos := lpos) (pos := ck) hg hm Fn.kp lk hcd hb Sg rfl (.inl l1) G TB hcode hmT hu hr L hdef hbind hbody hdb d1 e1
  refine (pe_call Fw hrw hgw hmw hkw hbw .nil pass0 (pa_cons hk pa_nil he) hdw he hpl).imp fun σ H Q ⟨O0, O, r, d, R, it, e, q⟩ => ?_
  unfold eKW at e
  obtain ⟨ds, ed, e⟩ := Option.bind_eq_some_iff.mp e
  obtain ⟨z, ez, e⟩ := Option.bind_eq_some_iff.mp e
  refine ⟨it.tabs, fun H1 x1' tb1 => ?_⟩
  have R1 := R.ext it x1' tb1
  refine ⟨O0, O, r, ds, z, R1, ed, ez, fun d' hd v H2 s2 rv => ?_, fun cc hc V H2 hV s2 => ?_⟩
  · subst hd
    have x2' := x1'.trans (same_ext s2)
    exact ⟨O, .non, none, d, rfl, R1.trk.mn s2, rfl, e, fun v H3 s3 rv => q v H3 (x2'.trans (same_ext s3)) ((tb1.ext s2).ext s3) rv⟩
  · subst hc
    simp only at e
    split at e
    · rename_i ho
      obtain ⟨C, rfl, h1, h2⟩ := KT cc ho V hV
      refine ⟨h2, fun a ha => ?_⟩
      have s3 := same_new (o := ExK (.ref C) none a) ha
      have t2 := R1.trk.mn s2
      have x3' := x1'.trans (same_ext (s2.trans s3))
      exact ⟨O, .ref a, some cc, d, rfl, t2.mn s3, ⟨a, C, rfl, h1, hide_in (t2.no ha) upd_same⟩, e, fun v H4 s4 rv => q v H4 (x3'.trans (same_ext s4)) (((tb1.ext s2).ext s3).ext s4) rv⟩
    · cases e
end
end BL

set_option Elab.async false
set_option linter.all false
set_option maxRecDepth 100000
/-! Defs that make lambdas, called. -/
namespace BL
open PySem PySem.Spec PyProof.Rows L2 LamX
theorem IT.wide {K : PySem.W.Frag} {T : List (Addr × Str)} {O0 O : List Addr} {σ : L2.St} {H : Hp} {r : Env} (R : RepE K O0 O σ H r) (t : IT T O0 H) : IT T O H := ⟨fun p hp => R.sub _ (t.hid p hp), t.tabs, fun p hp ps h => by
  rcases R.nt p hp with z | ⟨u, hu, pl⟩
  · exact t.all p z ps h
  · rw [h] at hu
    cases hu
    exact pl.elim⟩
def runR (F : FS) (N p : Nat) (ds : List Dt) : Option Dt := if ds.length = p then (F (startD N ds)).bind outL else none
def spT (K : PySem.W.Frag) (T : List (Addr × Str)) (g : List Dt → Option Dt) : Sp := fun vs H Q _ => ∃ O ds z, Trk O H ∧ IT T O H ∧ RpAll K (hide O H) vs ds ∧ g ds = some z ∧ ∀ v H', ExtN H H' → Tabs T H' → Rp K (hide O H') v z → Q v H'
def AvT (P : Program) (w : World) (K : PySem.W.Frag) (T : List (Addr × Str)) (mg : Str → Option Value) (base : Heap) (x : Str) (ps : List Str) (k : Nat) (g : List Dt → Option Dt) : Prop :=
  ∃ (fa : Addr) (fd : FuncData), FnOk P w K mg base CX0 k fa fd ps (spT K T g) ∧ mg x = some (.ref fa) ∧ PySem.W.keepIn K (.ref fa) = true ∧ Binds K fd ps []
def codeOf : FuncData → Value := fun fd => fd.code
section
variable {P : Program} {w : World} {K : PySem.W.Frag} {T : List (Addr × Str)} {mg : Str → Option Value} {base : Heap} {x qual : Str} {params : Arguments} {body : List Stmt} {scope : Scope} {f : Addr} {fd : FuncData} {N ps : List Str} {k n p : Nat} {F : FS}
theorem fn_tab (Fn : FunD K x qual params body scope [] [] f fd) (S : FnScope N ps scope) (hn : N.length = n) (hp : ps.length = p)
    (hb : ∀ (cdv : Value) (A : Around) (outer : List PySem.Env) (s : Shared) (H : Hp) (E : XK), fd.code = cdv → Room k (A.deeper (envOfC qual scope s.heap.objs.size f cdv)) → PSs (cxOf CX0 P w K mg base N qual scope f cdv A outer s H E).nox body (tsL K T F)) :
    FnOk P w K mg base CX0 (k + 1) f fd ps (spT K T (runR F n p)) := by
  subst hn hp
  obtain ⟨oc, od, dV, kV, doc, pm, an, cdv, ct, osl, rfl, lk, hcd, _, _⟩ := Fn.ex
  refine fn_of lk hcd S (fun vs H Q E h => ?_) (fun A outer s H vs Q E hr h => ⟨_, (hb cdv A outer s H E rfl hr).nox, ?_⟩)
  · obtain ⟨O, ds, z, t, it, h, e, q⟩ := h
    unfold runR at e
    split at e
    · rename_i hd
      rw [h.length]
      exact hd
    · cases e
  · obtain ⟨O, ds, z, t, it, h, e, q⟩ := h
    unfold runR at e
    split at e
    · obtain ⟨o, eo, e⟩ := Option.bind_eq_some_iff.mp e
      refine ⟨O, O, _, o, rep_start t h, it, eo, ?_⟩
      cases o with
      | rt d => cases e; exact fun O' v H' L rv tb => q v H' (fun b o' h' n => L.keep b o' (fun z => z) h' n) tb rv
      | nx r => cases e
      | bk r => cases e
      | ct r => cases e
      | exc c => cases e
      | rl xs => cases e
    · cases e
/-- the law's promise, tables and all -/
def spLT (K : PySem.W.Frag) (T : List (Addr × Str)) (g : List Dt → Option Dt) : Sp := fun vs H Q _ => ∃ (a : Addr) (ns : List Int), vs = [.ref a] ∧ (∀ p ∈ T, H p.1 = some (.tbl #[])) ∧ SqL K H a (ns.map V.int) ∧ g (ns.map PyData.int) = some (.bool true) ∧ ∀ H', Q (.bl true) H'
theorem fn_lawT (Fn : FunD K x qual params body scope [] [] f fd) {sn : Str} (S : FnScope N [sn] scope) (hn : N.length = n)
    (hb : ∀ (cdv : Value) (A : Around) (outer : List PySem.Env) (s : Shared) (H : Hp) (E : XK), fd.code = cdv → Room k (A.deeper (envOfC qual scope s.heap.objs.size f cdv)) → PSs (cxOf CX0 P w K mg base N qual scope f cdv A outer s H E).nox body (tsL K T F)) :
    FnOk P w K mg base CX0 (k + 1) f fd [sn] (spLT K T (runL F n)) := by
  subst hn
  obtain ⟨oc, od, dV, kV, doc, pm, an, cdv, ct, osl, rfl, lk, hcd, _, _⟩ := Fn.ex
  refine fn_of lk hcd S (fun vs H Q E h => ?_) (fun A outer s H vs Q E hr h => ⟨_, (hb cdv A outer s H E rfl hr).nox, ?_⟩)
  · obtain ⟨a, ns, rfl, _⟩ := h; rfl
  · obtain ⟨a, ns, rfl, hT, hS, e, q⟩ := h
    unfold runL at e
    obtain ⟨o, eo, e⟩ := Option.bind_eq_some_iff.mp e
    have mem : ∀ b, b ∈ T.map (·.1) → H b = some (.tbl #[]) := fun b hb => by
      obtain ⟨p, hp, rfl⟩ := List.mem_map.mp hb
      exact hT p hp
    have hS' : SqL K (hide (T.map (·.1)) H) a (ns.map V.int) := by
      rcases hS with (h | ⟨o, h⟩) | h
      · exact .inl (.inl (hide_in (fun z => by rw [mem a z] at h; cases h) h))
      · exact .inl (.inr ⟨o, hide_in (fun z => by rw [mem a z] at h; cases h) h⟩)
      · exact .inr h
    have g0 : ∀ (i : Nat) s, (startL N.length (ns.map PyData.int))[i]? = some (some s) → i = 0 ∧ s = .scr (ns.map PyData.int) := fun i s e => by
      unfold startL at e
      cases i with
      | zero => simp at e; exact ⟨rfl, e.symm⟩
      | succ i =>
        rw [List.getElem?_cons_succ, List.getElem?_replicate] at e
        split at e <;> cases e
    refine ⟨T.map (·.1), T.map (·.1), _, o, ⟨⟨?_, fun i d e => ?_, fun i xs e => ?_, fun i xs e => ?_, fun i c e => ?_, fun i j p xs ys _ e => ?_, fun p h => ⟨_, mem p h⟩, fun p h => h, fun p h => .inl h⟩, RepB.none fun i s e => by rw [(g0 i s e).2]; rfl⟩,
      ⟨fun p hp => List.mem_map.mpr ⟨p, hp, rfl⟩, fun p hp => TabS.nil (hT p hp), fun p hp _ _ => hp⟩, eo, ?_⟩
    · unfold L2.start startL
      simp
    · cases (g0 i _ e).2
    · cases (g0 i _ e).2
    · obtain ⟨rfl, e1⟩ := g0 i _ e
      cases e1
      exact ⟨a, _, rfl, hS', RpAll.ints ns⟩
    · cases (g0 i _ e).2
    · cases (g0 i _ e).2
    · cases o with
      | rt d => cases e; exact fun O' v H' L rv tb => by cases rv; exact q H'
      | nx r => cases e
      | bk r => cases e
      | ct r => cases e
      | exc c => cases e
      | rl xs => cases e
end
section
variable {X : Cx} {T : List (Addr × Str)} {a : Expr} {es : List Expr} {t : FA} {k : Nat} {ps : List Str} {gg : List Dt → Option Dt} {x : Str} {p pos : Pos} {f : FE} {e : Expr}
theorem dCallT (A : AvT X.prog X.w X.K T X.mg X.base x ps k gg) (hr : Room k X.A) (hg : Gl X x)
    (ha : PA X (a :: es) (tDA X.K t)) (hdb : (x == ("__debug__" : Str)) = false := by decide) (he : starEach (a :: es) X.env = (false, eval a X.env) :: starEach es X.env := by rfl)
    (hpl : (backTo pos (starEach es X.env)).any (·.1) = false := by rfl) : PE X (.Call (.Name x p) (a :: es) [] pos) (tEL X.K T (eCall gg t)) := by
  obtain ⟨fa, fd, F, gl, kp, bd⟩ := A
  refine (pe_call F hr hg gl kp bd .nil pass0 ha hdb he hpl).imp fun σ H Q ⟨O0, O, r, d, R, it, e, q⟩ => ?_
  unfold eCall at e
  obtain ⟨ds, ed, e⟩ := Option.bind_eq_some_iff.mp e
  refine ⟨O0, O, r, ds, R, ed, fun vs H1 s1 ra => ?_⟩
  show spT X.K T gg (vs ++ []) H1 Q E0
  rw [List.append_nil]
  have R1 := R.mn s1
  have i1 := it.ext R.trk0 (same_ext s1) (it.tabs.ext s1)
  exact ⟨O, ds, d, R1.trk, IT.wide R1 i1, ra, e, fun v H2 x2 tb rv => q v H2 ((same_ext s1).trans x2) tb rv⟩
theorem kRet (he : PE X e (tEL X.K T f)) : PS X (.Return (some e) pos) (tsL X.K T (sRet f)) := (ps_ret he).imp fun D σ H ⟨O0, O, r, o, R, it, ee, q⟩ => by
  unfold sRet at ee
  obtain ⟨x, ex, ee⟩ := Option.bind_eq_some_iff.mp ee
  cases ee
  exact ⟨O0, O, r, x, R, it, ex, fun v H1 x1 tb rv => q O v H1 (LaterL.ext x1) (rv.mn (hide_less R.sub)) tb⟩
/-- an own list and [e] -/
@[simp] def eOwnPlus (i : Nat) (f : FE) (r : Env) : Option Dt := match r[i]? with
  | some (some (.own xs)) => (f r).bind fun y => if sizeOk (xs.length + 1) then some (.list (xs ++ [y])) else none
  | _ => none
def rPlusL (H0 : Hp) : R2 := fun x y H Q => ∃ (p q : Addr) (vs ws : List V), x = .ref p ∧ y = .ref q ∧ H p = some (.lst vs) ∧ H q = some (.lst ws) ∧ vs.length + ws.length ≤ sizeLine ∧ ∀ r, H r = none → Q (.ref r) (upd H r (.lst (vs ++ ws)))
theorem op_plusL {H0 : Hp} : OpR X (binaryOp .Add) (rPlusL H0) := by
  intro pins s σ H x y v u Q I rx ry ⟨p, q, vs, ws, ex, ey, hp, hq, hl, z⟩
  subst ex ey
  cases rx
  cases ry
  obtain ⟨z1, its, n, r1, g1⟩ := I.hok p _ hp
  obtain ⟨z2, its2, n2, r2, g2⟩ := I.hok q _ hq
  have m1 := r1.length
  have m2 := r2.length
  refine PySem.P.add_list g1 g2 ?_ (by rw [List.size_toArray, List.size_toArray]; omega)
  rw [show its.toArray ++ its2.toArray = (its ++ its2).toArray by simp]
  exact ⟨.ref _, _, I.lnew (t' := s.toks) (r1.append r2) (by rw [List.length_append]; omega), rfl, z _ I.fresh⟩
theorem dOwnPlus {i : Nat} {x : Str} {p pos lp : Pos} {e : Expr} {f : FE} (hx : PE X (.Name x p) (tVar i)) (he : PE X e (tEL X.K T f)) (hs : starEach [e] X.env = (false, eval e X.env) :: starEach [] X.env := by rfl) :
    PE X (.BinOp (.Name x p) .Add (.List [e] lp) pos) (tEL X.K T (eOwnPlus i f)) :=
  (pe_op (op_plusL (H0 := fun _ => none)) hx (pe_lst (pa_cons he pa_nil hs))).imp fun σ H Q ⟨O0, O, r, d, R, it, ee, q⟩ => by
    unfold eOwnPlus at ee
    split at ee
    · rename_i xs hi
      obtain ⟨y, ey, ee⟩ := Option.bind_eq_some_iff.mp ee
      split at ee
      · rename_i hz
        cases ee
        obtain ⟨q0, vs, h1, h2, h3, h4, h5⟩ := R.own i xs hi
        refine ⟨_, h1, O0, O, r, y, R, it, ey, fun w H1 x1 tb rw' => ⟨sizeOk_le (n := 1) rfl, fun q1 hq1 => ?_⟩⟩
        have R1 := R.ext it x1 tb
        have h4' := x1 _ _ h4 fun _ z => by cases z
        have s1 := same_new (o := .lst [w]) hq1
        have hl := h5.length
        have hz' := sizeOk_le hz
        refine ⟨q0, q1, vs, [w], rfl, rfl, s1 _ _ h4', upd_same, by simpa [hl] using hz', fun q2 hq2 => ?_⟩
        have s2 := same_new (o := .lst (vs ++ [w])) hq2
        refine q _ _ (x1.trans (same_ext (s1.trans s2))) ((tb.ext s1).ext s2) ?_
        have t1 := R1.trk.mn s1
        exact rp_newL t1 hq2 (((h5.ex (ext_hide x1)).mn (hide_same s1)).append (.cons (rw'.mn (hide_same s1)) .nil))
      · cases ee
    · cases ee
end
end BL

set_option Elab.async false
set_option linter.all false
set_option maxRecDepth 100000
/-! Statements without certain outcomes. -/
namespace BL
open PySem
def NoB (bad : SOut → Bool) (F : FS) : Prop := ∀ r o, F r = some o → bad o = false
def bX : SOut → Bool
  | .exc _ => true
  | _ => false
def bXR : SOut → Bool
  | .exc _ => true
  | .rl _ => true
  | _ => false
class Bd (bad : SOut → Bool) : Prop where
  nx : ∀ r, bad (.nx r) = false
  rt : ∀ r, bad (.rt r) = false
  bk : ∀ r, bad (.bk r) = false
  ct : ∀ r, bad (.ct r) = false
instance : Bd bX := ⟨fun _ => rfl, fun _ => rfl, fun _ => rfl, fun _ => rfl⟩
instance : Bd bXR := ⟨fun _ => rfl, fun _ => rfl, fun _ => rfl, fun _ => rfl⟩
theorem pure_of {F : FS} (h : NoB bX F) : PureS F := fun r c e => by cases h r _ e
theorem pure_of' {F : FS} (h : NoB bXR F) : PureS F := fun r c e => by cases h r _ e
theorem norl_of {F : FS} (h : NoB bXR F) : ∀ r xs, F r ≠ some (.rl xs) := fun r c e => by cases h r _ e
section
variable {bad : SOut → Bool} [B : Bd bad] {F G : FS}
theorem nb_next : NoB bad sNext := fun r o e => by cases e; exact B.nx _
theorem nb_break : NoB bad sBreak := fun r o e => by cases e; exact B.bk _
theorem nb_cont : NoB bad sCont := fun r o e => by cases e; exact B.ct _
theorem nb_never : NoB bad sNever := fun r o e => by cases e
theorem nb_seq (h1 : NoB bad F) (h2 : NoB bad G) : NoB bad (sSeq F G) := fun r o e => by
  obtain ⟨o1, e1, e⟩ := Option.bind_eq_some_iff.mp e
  cases o1 with
  | nx r1 => exact h2 _ _ e
  | rt d => cases e; exact h1 _ _ e1
  | bk r1 => cases e; exact h1 _ _ e1
  | ct r1 => cases e; exact h1 _ _ e1
  | exc c => cases e; exact h1 _ _ e1
  | rl d => cases e; exact h1 _ _ e1
theorem nb_if {t : FE} (h1 : NoB bad F) (h2 : NoB bad G) : NoB bad (sIf t F G) := fun r o e => by
  obtain ⟨x, _, e⟩ := Option.bind_eq_some_iff.mp e
  obtain ⟨k, _, e⟩ := Option.bind_eq_some_iff.mp e
  cases k with
  | true => exact h1 _ _ e
  | false => exact h2 _ _ e
theorem nb_asg {g : TGD} {t : FE} : NoB bad (sAsg g t) := fun r o e => by
  obtain ⟨x, _, e⟩ := Option.bind_eq_some_iff.mp e
  obtain ⟨k, _, e⟩ := Option.bind_eq_some_iff.mp e
  cases e; exact B.nx _
theorem nb_par {is : List Nat} {t : FA} : NoB bad (sPar is t) := fun r o e => by
  obtain ⟨x, _, e⟩ := Option.bind_eq_some_iff.mp e
  split at e
  · cases e; exact B.nx _
  · cases e
theorem nb_ret {t : FE} : NoB bad (sRet t) := fun r o e => by
  obtain ⟨x, _, e⟩ := Option.bind_eq_some_iff.mp e
  cases e; exact B.rt _
theorem nb_drop {t : FE} : NoB bad (sDrop t) := fun r o e => by
  obtain ⟨x, _, e⟩ := Option.bind_eq_some_iff.mp e
  cases e; exact B.nx _
theorem nb_own {i : Nat} {t : FA} : NoB bad (sOwn i t) := fun r o e => by
  obtain ⟨x, _, e⟩ := Option.bind_eq_some_iff.mp e
  split at e
  · cases e; exact B.nx _
  · cases e
theorem nb_ownC {i : Nat} {g : List Dt → Option (List Dt)} {t : FA} : NoB bad (sOwnCall i g t) := fun r o e => by
  obtain ⟨x, _, e⟩ := Option.bind_eq_some_iff.mp e
  obtain ⟨k, _, e⟩ := Option.bind_eq_some_iff.mp e
  cases e; exact B.nx _
theorem nb_putLast {i : Nat} {t : FE} : NoB bad (sPutLast i t) := fun r o e => by
  obtain ⟨x, _, e⟩ := Option.bind_eq_some_iff.mp e
  split at e
  · split at e
    · cases e
    · cases e; exact B.nx _
  · cases e
theorem nb_dropM {m : FM} : NoB bad (sDropM m) := fun r o e => by
  obtain ⟨x, _, e⟩ := Option.bind_eq_some_iff.mp e
  cases e; exact B.nx _
theorem nb_asgM {g : TGD} {m : FM} : NoB bad (sAsgM g m) := fun r o e => by
  obtain ⟨x, _, e⟩ := Option.bind_eq_some_iff.mp e
  obtain ⟨k, _, e⟩ := Option.bind_eq_some_iff.mp e
  cases e; exact B.nx _
theorem nb_retO {i : Nat} : NoB bX (sRetO i) := fun r o e => by
  unfold sRetO at e
  split at e
  · cases e; rfl
  · cases e
theorem nb_for {fi : FA} {g : TGD} (h : NoB bad F) : NoB bad (sFor fi g F) := fun r o e => by
  obtain ⟨xs, _, e⟩ := Option.bind_eq_some_iff.mp e
  have go : ∀ (xs : List Dt) (r : Env) (o : SOut), forGo g F xs r = some o → bad o = false := by
    intro xs
    induction xs with
    | nil => intro r o e; cases e; exact B.nx _
    | cons x xs ih =>
      intro r o e
      unfold forGo at e
      obtain ⟨r1, _, e⟩ := Option.bind_eq_some_iff.mp e
      obtain ⟨o1, e1, e⟩ := Option.bind_eq_some_iff.mp e
      cases o1 with
      | nx r2 => exact ih _ _ e
      | ct r2 => exact ih _ _ e
      | bk r2 => cases e; exact B.nx _
      | rt d => cases e; exact h _ _ e1
      | exc c => cases e; exact h _ _ e1
      | rl d => cases e; exact h _ _ e1
  exact go xs r o e
theorem nb_while {t : FE} (h : NoB bad F) : NoB bad (sWhile t F) := fun r o e => by
  obtain ⟨n, hn⟩ := sWhile_go e
  clear e
  induction n generalizing r with
  | zero => cases hn
  | succ n ih =>
    unfold whileGo at hn
    obtain ⟨x, _, e⟩ := Option.bind_eq_some_iff.mp hn
    obtain ⟨k, _, e⟩ := Option.bind_eq_some_iff.mp e
    cases k with
    | false => cases e; exact B.nx _
    | true =>
      obtain ⟨o1, e1, e⟩ := Option.bind_eq_some_iff.mp e
      cases o1 with
      | nx r2 => exact ih _ e
      | ct r2 => exact ih _ e
      | bk r2 => cases e; exact B.nx _
      | rt d => cases e; exact h _ _ e1
      | exc c => cases e; exact h _ _ e1
      | rl d => cases e; exact h _ _ e1
end
section
open PySem.Spec PyProof.Rows L2
theorem psNox {X : Cx} {st : Stmt} {t : TS} (h : PS X.nox st t) : PS X st t := ⟨fun pins s σ H D I hw => wpAny_mono (h.run pins s σ H D (I.wish _) hw) (fun _ _ q => q.unwish) (fun _ _ z => z.elim)⟩
/-- a pure statement of a def that raises -/
theorem xPure {X : Cx} {st : Stmt} {F : FS} {E : XK} (h : PS X.nox st (tsD X.K F)) (hp : NoB bX F) : PS X st (tsX X.K X.mg E F) := xLift (psNox h) (pure_of hp)
theorem xPures {X : Cx} {body : List Stmt} {F : FS} {E : XK} (h : PSs X.nox body (tsD X.K F)) (hp : NoB bX F) : PSs X body (tsX X.K X.mg E F) := xLifts h.nox (pure_of hp)
/-- an own class of exceptions over ValueError, by a check of the frame -/
def excOk (K : PySem.W.Frag) (c : Str) : Bool := match PySem.W.nsIn K mainGlobals c with
  | some (some (.ref C)) => PySem.W.keepIn K (.ref C) && decide (PySem.W.typeIn K (.ref C) = some (.type "type")) && decide (PySem.W.subIn K (.ref C) (.type "BaseException") = some true) && PySem.W.excIn K C [.type "ValueError", .type "Exception", .type "BaseException", .type "object"] "ValueError.__new__"
  | _ => false
structure ExcA (K : PySem.W.Frag) (mg : Str → Option Value) (c : Str) (C : Addr) : Prop where
  d : ExcD K mg c C
  i : PySem.W.excIn K C [.type "ValueError", .type "Exception", .type "BaseException", .type "object"] "ValueError.__new__" = true
  k : ClsK K c C
theorem excOk_ok {K : PySem.W.Frag} {h : Heap} {mg : Str → Option Value} (X : K.In h) (G : h.Ns mainGlobals mg) {c : Str} (e : excOk K c = true) : ∃ C, ExcA K mg c C := by
  unfold excOk at e
  split at e
  · rename_i C hC
    simp only [Bool.and_eq_true, decide_eq_true_eq] at e
    obtain ⟨⟨⟨e1, e2⟩, e3⟩, e4⟩ := e
    exact ⟨C, ⟨PySem.W.mg_of X G hC, e1, e2, e3⟩, e4, hC⟩
  · cases e
end
end BL

set_option Elab.async false
set_option linter.all false
set_option maxRecDepth 100000
/-! x = list(e), x[i] = e, tuple(x) of an own list. -/
namespace BL
open PySem PySem.Spec PyProof.Rows L2
def asSeq : Dt → Option (List Dt)
  | .list xs => some xs
  | .tuple xs => some xs
  | _ => none
@[simp] def sOwnOf (i : Nat) (f : FE) (r : Env) : Option SOut := (f r).bind fun x => (asSeq x).bind fun xs => some (.nx (r.set i (some (.own xs))))
@[simp] def sPutAt (i : Nat) (fi fe : FE) (r : Env) : Option SOut := (fe r).bind fun x => match r[i]? with
  | some (some (.own xs)) => (fi r).bind fun y => match y with
    | .int j => if decide (0 ≤ j) && decide (j < xs.length) then some (.nx (r.set i (some (.own (xs.set j.toNat x))))) else none
    | _ => none
  | _ => none
@[simp] def eOwnTup (i : Nat) (r : Env) : Option Dt := match r[i]? with
  | some (some (.own xs)) => some (.tuple xs)
  | _ => none
theorem nb_ownOf {bad : SOut → Bool} [B : Bd bad] {i : Nat} {f : FE} : NoB bad (sOwnOf i f) := fun r o e => by
  obtain ⟨x, _, e⟩ := Option.bind_eq_some_iff.mp e
  obtain ⟨k, _, e⟩ := Option.bind_eq_some_iff.mp e
  cases e; exact B.nx _
theorem RpAll.put {K : PySem.W.Frag} {H : Hp} {v : V} {d : Dt} (h : Rp K H v d) : ∀ {vs : List V} {ds : List Dt} (n : Nat), RpAll K H vs ds → RpAll K H (vs.set n v) (ds.set n d)
  | _, _, _, .nil => .nil
  | _, _, 0, .cons _ t => .cons h t
  | _, _, n + 1, .cons a t => .cons a (RpAll.put h n t)
section
variable {X : Cx} {e ie : Expr} {f fi : FE} {pos : Pos} {x : Str} {i : Nat}
theorem zOwnOf {pos' : Pos} (h : PS X (.Assign [.Name x pos'] e pos) (tAsg (tF X.K (fun r => (f r).bind asSeq)) (gName i))) : PS X (.Assign [.Name x pos'] e pos) (tsD X.K (sOwnOf i f)) := h.imp fun D σ H ⟨O0, O, r, o, R, ee, q⟩ => by
  unfold sOwnOf at ee
  obtain ⟨y, ey, ee⟩ := Option.bind_eq_some_iff.mp ee
  obtain ⟨zs, ez, ee⟩ := Option.bind_eq_some_iff.mp ee
  cases ee
  refine ⟨O0, O, r, zs, R, ?_, fun q0 ws H1 s1 hq hw ra => ?_⟩
  · show (f r).bind asSeq = some zs
    rw [ey]
    exact ez
  · exact q _ _ _ (later_new hq s1) (R.newOwn hq s1 hw ra)
/-- list(e), a new list -/
theorem dNewList {p : Pos} (hg : Gl X "list") (hm : X.mg "list" = none) (he : PE X e (tD X.K f)) (hs : starEach [e] X.env = (false, eval e X.env) :: starEach [] X.env := by rfl) (hpl : (backTo pos (starEach [] X.env)).any (·.1) = false := by rfl) :
    PE X (.Call (.Name "list" p) [e] [] pos) (tF X.K (fun r => (f r).bind asSeq)) :=
  (pe_callTy call_list_of hg hm (by decide +kernel) (pa_cons he pa_nil hs) (by decide) (by decide) hs hpl).imp fun σ H Q ⟨O0, O, r, xs, R, ee, q⟩ => by
    obtain ⟨y, ey, ee⟩ := Option.bind_eq_some_iff.mp ee
    refine ⟨O0, O, r, y, R, ey, fun v H1 s1 rv => ?_⟩
    unfold asSeq at ee
    have nn : ∀ l, H1 l = none → H l = none := fun l hl => by
      cases z : H l with
      | none => rfl
      | some o => rw [s1 l o z] at hl; cases hl
    split at ee
    · cases ee
      cases rv with
      | lst hx ax => exact ⟨_, _, rfl, .inl (hl hx), fun l hl => q l _ _ (s1.trans (same_new hl)) (nn l hl) upd_same (ax.mn (hide_new hl (same_new hl)))⟩
    · cases ee
      cases rv with
      | tup hx ax => exact ⟨_, _, rfl, .inr (same_t hide_sub hx), fun l hl => q l _ _ (s1.trans (same_new hl)) (nn l hl) upd_same (ax.mn (hide_new hl (same_new hl)))⟩
    · cases ee
theorem zPutAt {p p3 : Pos} (he : PE X e (tD X.K f)) (hx : PE X (.Name x p) (tVar i)) (hi : PE X ie (tD X.K fi)) (hs : swapsWithSole [.Subscript (.Name x p) ie p3] e pos.line X.env = pure false := by rfl)
    (hw : swappedStores [.Subscript (.Name x p) ie p3] e X.env = pure none := by rfl)
    (ha : ∀ v, assign (.Subscript (.Name x p) ie p3) X.env v = (do
      let objV ← holding [v] (eval (.Name x p) X.env); let ixV ← holding [v, objV] (eval ie X.env)
      standAt p3; holding [v, objV, ixV] (setItem objV ixV v)
      release [v, objV, ixV] []) := by intro _; rfl)
    (h1 : (assignEach [.Subscript (.Name x p) ie p3] X.env).map (·.2) = [assign (.Subscript (.Name x p) ie p3) X.env] := by rfl) :
    PS X (.Assign [.Subscript (.Name x p) ie p3] e pos) (tsD X.K (sPutAt i fi f)) :=
  (ps_asg he (pg_sub hx hi set_list ha) hs hw h1).imp fun D σ H ⟨O0, O, r, o, R, ee, q⟩ => by
    unfold sPutAt at ee
    obtain ⟨d, ed, ee⟩ := Option.bind_eq_some_iff.mp ee
    split at ee
    · rename_i xs hi'
      obtain ⟨y, ey, ee⟩ := Option.bind_eq_some_iff.mp ee
      split at ee
      · rename_i j
        split at ee
        · rename_i hz
          cases ee
          rw [Bool.and_eq_true, decide_eq_true_eq, decide_eq_true_eq] at hz
          refine ⟨O0, O, r, d, R, ed, fun v H1 s1 rv => ?_⟩
          obtain ⟨q0, vs, h1, h2, h3, h4, h5⟩ := R.own i xs hi'
          have R1 := R.mn s1
          refine ⟨_, h1, O0, O, r, _, R1, ey, fun iv H2 s2 ri => ?_⟩
          have s12 := s1.trans s2
          have hl := h5.length
          have h5' := h5.mn (hide_same (O := O) s12)
          refine ⟨q0, vs, j, j.toNat, rfl, rp_int ri, s12 _ _ h4, ?_, ?_⟩
          · unfold ixN
            rw [if_pos hz.1, if_pos (by omega)]
          · exact q O σ _ ((Later.same s12).trans (later_upd h2 h3 ⟨_, s12 _ _ h4⟩)) ((R.mn s12).upOwn hi' h1 h2 h3 (RpAll.put (rv.mn (hide_same s2)) j.toNat h5'))
        · cases ee
      · cases ee
    · cases ee
/-- tuple(x), x an own list -/
theorem dOwnTup {p px : Pos} (hg : Gl X "tuple") (hm : X.mg "tuple" = none) (hx : PE X (.Name x px) (tVar i)) (hs : starEach [.Name x px] X.env = (false, eval (.Name x px) X.env) :: starEach [] X.env := by rfl) (hpl : (backTo pos (starEach [] X.env)).any (·.1) = false := by rfl) :
    PE X (.Call (.Name "tuple" p) [.Name x px] [] pos) (tD X.K (eOwnTup i)) :=
  (pe_callTy call_tuple_of hg hm (by decide +kernel) (pa_cons hx pa_nil hs) (by decide) (by decide) hs hpl).imp fun σ H Q ⟨O0, O, r, d, R, ee, q⟩ => by
    unfold eOwnTup at ee
    split at ee
    · rename_i xs hi
      cases ee
      obtain ⟨q0, vs, h1, h2, h3, h4, h5⟩ := R.own i xs hi
      exact ⟨_, h1, _, _, rfl, .inl ⟨.inl (.of h4), fun l hl => q _ _ (same_new hl) (rp_newT R.trk hl h5)⟩⟩
    · cases ee
end
end BL

set_option Elab.async false
set_option linter.all false
set_option maxRecDepth 100000
/-! Facts of the head: classes of exceptions, tables of defs. -/
namespace BL
open PySem PySem.Spec PyProof.Rows L2 LamX
def someTrue (a : Option Bool) : Bool := match a with
  | some true => true
  | _ => false
theorem someTrue_ok {a : Option Bool} (h : someTrue a = true) : a = some true := by
  unfold someTrue at h
  split at h
  · rfl
  · cases h
def excCB (K : PySem.W.Frag) (D : Addr) : Bool :=
  He.eqO (PySem.W.findIn K (.ref D) "__getattribute__") (some (some (.builtin "BaseException.__getattribute__"))) && (He.eqO (PySem.W.findIn K (.ref D) "__getattr__") (some none) && (someTrue (PySem.W.subIn K (.ref D) (.type "BaseException")) && (PySem.W.hasDictIn K D &&
  (He.eqO (PySem.W.findIn K (.ref D) "__class__") (some (some (.builtin "object.__class__"))) && (He.eqO (PySem.W.specialIn K (.builtin "object.__class__") "__get__") (some (some (.builtin "getset_descriptor.__get__"))) && (someTrue (PySem.W.takesIn K (.builtin "object.__class__")) && someTrue (PySem.W.mroIn K D (.type "object"))))))))
theorem excCB_ok {K : PySem.W.Frag} {D : Addr} (h : excCB K D = true) : ExcC K D := by
  obtain ⟨h1, h⟩ := He.ba h
  obtain ⟨h2, h⟩ := He.ba h
  obtain ⟨h3, h⟩ := He.ba h
  obtain ⟨h4, h⟩ := He.ba h
  obtain ⟨h5, h⟩ := He.ba h
  obtain ⟨h6, h⟩ := He.ba h
  obtain ⟨h7, h8⟩ := He.ba h
  exact ⟨He.eqO_ok h1, He.eqO_ok h2, someTrue_ok h3, h4, He.eqO_ok h5, He.eqO_ok h6, someTrue_ok h7, someTrue_ok h8⟩
/-- the classes cs, asked each whether it is of the class cv -/
def kitB (K : PySem.W.Frag) (cs : List Str) (cv : PySem.W.Frag → Value) (one : Str → Bool) : Bool := cs.all fun c => match PySem.W.nsIn K mainGlobals c with
  | some (some (.ref D)) => excCB K D && decide (PySem.W.kitOne K (.ref D) (cv K) = some (one c))
  | _ => false
def tabC (cs : List Str) (one : Str → Bool) (c : String) : Option Bool := if cs.contains c = true then some (one c) else none
theorem kitB_ok {K : PySem.W.Frag} {cs : List Str} {cv : PySem.W.Frag → Value} {one : Str → Bool} (h : kitB K cs cv one = true) : KitT K (cv K) (tabC cs one) := by
  intro c b hb D hD
  unfold tabC at hb
  split at hb
  · rename_i hc
    cases hb
    have z := List.all_eq_true.mp h c (List.contains_iff_mem.mp hc)
    rw [show PySem.W.nsIn K mainGlobals c = some (some (.ref D)) from hD] at z
    obtain ⟨z1, z2⟩ := He.ba z
    exact ⟨excCB_ok z1, of_decide_eq_true z2⟩
  · cases hb
/-- the classes cs are kept by a clause of the class c0 -/
def keepB (K : PySem.W.Frag) (cs : List Str) (c0 : Str) : Bool := cs.all fun c => match PySem.W.nsIn K mainGlobals c with
  | some (some (.ref D)) => someTrue (PySem.W.exmOne K (.ref D) (.ref (He.ga K c0)))
  | _ => false
theorem keepB_ok {K : PySem.W.Frag} {h : Heap} {mg : Str → Option Value} (X : K.In h) (G : h.Ns mainGlobals mg) {cs : List Str} {c0 : Str} (e : keepB K cs c0 = true) : KeepT K mg (He.ga K c0) (fun c => cs.contains c) := by
  intro c hc V hV
  have z := List.all_eq_true.mp e c (List.contains_iff_mem.mp hc)
  split at z
  · rename_i D hD
    have e2 := PySem.W.mg_of X G hD
    rw [hV] at e2
    exact ⟨D, Option.some.inj e2, hD, someTrue_ok z⟩
  · cases z
/-- a def whose table of code objects is known -/
def DefAtT (K : PySem.W.Frag) (mg : Str → Option Value) (x : Str) (st : Stmt) (ps : List Str) : Prop := ∃ (fa : Addr) (fd : FuncData), FunD K x x (defArgs st) (defBody st) (defScope st) [] [] fa fd ∧ mg x = some (.ref fa) ∧ Binds K fd ps [] ∧ fd.code = .ref (He.cT K (x, none)).1
theorem code_of {K : PySem.W.Frag} {x q : Str} {pr : Arguments} {bd : List Stmt} {sc : Scope} {dv : List V} {kv : List (Str × V)} {fd : FuncData} {p : Str × Option Str} (F : FunD K x q pr bd sc dv kv (He.fAd K p) fd) : fd.code = .ref (He.codeOf K p) := by
  obtain ⟨oc, od, dV, kV, doc, pm, an, cdv, ct, osl, rfl, lk, hcd, _, _⟩ := F.ex
  obtain ⟨c, rfl⟩ := He.codeIn_ref hcd
  rw [He.codeOf_eq lk rfl] <;> rfl
/-- the name of the lambdas of a def -/
def qualL (x : Str) (sc : Scope) : Str := lamQ (envOfC x sc 0 0 .none).qual
/-- what a def with lambdas leans on, for its own lambdas -/
structure TabD (K : PySem.W.Frag) (base : Heap) (mg : Str → Option Value) (T : List (Addr × Str)) (x : Str) (sc : Scope) : Prop where
  b : TabB base mg (He.cT K (x, none)).1 (He.cT K (x, none)).2
  m : ((He.cT K (x, none)).2, qualL x sc) ∈ T
  u : ∀ p ∈ T, p.1 = (He.cT K (x, none)).2 → p.2 = qualL x sc
section
variable {X : Cx} {T : List (Addr × Str)} {st : Stmt} {F : FS}
theorem kPure (h : PS X st (tsD X.K F)) (hp : NoB bXR F) : PS X st (tsL X.K T F) := kLift h (norl_of hp) (pure_of' hp)
theorem kPures {body : List Stmt} (h : PSs X body (tsD X.K F)) (hp : NoB bXR F) : PSs X body (tsL X.K T F) := h.imp fun D σ H ⟨O0, O, r, o, R, t, e, q⟩ => ⟨O0, O, r, o, R, e, by
  cases o with
  | nx r1 => exact fun O' σ' H' L R' => q O' σ' H' L.l R' (t.later R L)
  | rt d => exact fun O' v H' L rv => q O' v H' L.l rv (t.later R L).tabs
  | bk r1 => exact fun O' σ' H' L R' => q O' σ' H' L.l R' (t.later R L)
  | ct r1 => exact fun O' σ' H' L R' => q O' σ' H' L.l R' (t.later R L)
  | rl xs => exact absurd e (norl_of hp r xs)
  | exc c => exact absurd e (pure_of' hp r c)⟩
end
theorem nb_putAt {bad : SOut → Bool} [B : Bd bad] {i : Nat} {fi f : FE} : NoB bad (sPutAt i fi f) := fun r o e => by
  obtain ⟨x, _, e⟩ := Option.bind_eq_some_iff.mp e
  split at e
  · obtain ⟨y, _, e⟩ := Option.bind_eq_some_iff.mp e
    split at e
    · split at e
      · cases e; exact B.nx _
      · cases e
    · cases e
  · cases e
theorem ga_of {K : PySem.W.Frag} {c : Str} {C : Addr} (h : ClsK K c C) : He.ga K c = C := by
  unfold He.ga
  rw [show PySem.W.nsIn K mainGlobals c = some (some (.ref C)) from h]
/-! more expressions -/
def oFrom : Dt → Dt → Option Dt
  | .list xs, .int j => some (.list (cutD xs (some j) none))
  | .tuple xs, .int j => some (.tuple (cutD xs (some j) none))
  | _, _ => none
section
variable {X : Cx} {a e : Expr} {f g : FE} {pos : Pos}
theorem dDict0 : PE X (.Dict [] [] pos) (tD X.K (eC (.dict []))) := pe_dnewK.imp fun σ H Q ⟨O0, O, r, d, R, e, q⟩ => by
  cases e
  exact fun p hp => q _ _ (same_new hp) (.dk0 (hide_in (R.trk.no hp) upd_same))
/-- an item of an own list -/
theorem dOwnIx {i : Nat} {x : Str} {p : Pos} (hx : PE X (.Name x p) (tVar i)) (hb : PE X e (tD X.K g)) (hs : PlainIx e := by exact fun _ _ => rfl) : PE X (.Subscript (.Name x p) e pos) (tD X.K (eOwnIx i g)) :=
  (pe_ix ix_list hx hb hs).imp fun σ H Q ⟨O0, O, r, d, R, ee, q⟩ => by
    unfold eOwnIx at ee
    split at ee
    · rename_i xs hi
      obtain ⟨y, ey, ee⟩ := Option.bind_eq_some_iff.mp ee
      unfold oIx at ee
      split at ee
      · rename_i zs j hz
        cases hz
        obtain ⟨q0, vs, h1, h2, h3, h4, h5⟩ := R.own i _ hi
        refine ⟨_, h1, O0, O, r, _, R, ey, fun w H1 s1 rw' => ?_⟩
        obtain ⟨u, hu, ru⟩ := atD_V h5 ee
        rw [rp_int rw']
        exact ⟨_, _, _, u, rfl, rfl, .inl (.of (s1 _ _ h4)), hu, q u H1 s1 (ru.mn (hide_same s1))⟩
      · rename_i hz
        cases hz
      · cases ee
    · cases ee
/-- x[e:] -/
def rFrom (K : PySem.W.Frag) : V → Option Int → Option Int → Hp → VK → Prop := fun x l h H Q => ∃ j, l = some j ∧ h = none ∧ uD K (oSlice (some j) none) x H Q
theorem slF : SlR X (rFrom X.K) := fun pins s σ H x v vl vu l h sl Q I rx hs pl pu ⟨j, el, eh, z⟩ => slD (some j) none pins s σ H x v vl vu l h sl Q I rx hs pl pu ⟨el, eh, z⟩
theorem dFrom {p2 : Pos} (ha : PE X a (tD X.K f)) (hb : PE X e (tD X.K g)) : PE X (.Subscript a (.Slice (some e) none none p2) pos) (tD X.K (eOp oFrom f g)) :=
  (pe_slice slF ha (po_some hb) po_none).imp fun σ H Q ⟨O0, O, r, d, R, ee, q⟩ => by
    unfold eOp at ee
    obtain ⟨x, ex, ee⟩ := Option.bind_eq_some_iff.mp ee
    obtain ⟨y, ey, ee⟩ := Option.bind_eq_some_iff.mp ee
    refine ⟨O0, O, r, x, R, ex, fun v H1 s1 r1 => ⟨O0, O, r, y, R.mn s1, ey, fun w H2 s2 r2 => ?_⟩⟩
    have key : ∀ j, y = .int j → oSlice (some j) none x = some d → ∃ i, w = .int i ∧ rFrom X.K v (some i) none H2 Q := fun j hy ho => by
      subst hy
      exact ⟨j, rp_int r2, j, rfl, rfl, O, x, d, (R.trk.mn s1).mn s2, r1.mn (hide_same s2), ho, fun z H3 s3 r3 => q z H3 ((s1.trans s2).trans s3) r3⟩
    unfold oFrom at ee
    split at ee
    · cases ee; exact key _ rfl rfl
    · cases ee; exact key _ rfl rfl
    · cases ee
end
end BL

set_option Elab.async false
set_option linter.all false
set_option maxRecDepth 100000
/-! A class whose __init__ may raise; a lambda that makes one. -/
namespace BL
open PySem PySem.Spec PyProof.Rows L2 LamX
/-- a call whose answer is dropped -/
def tCXn (K : PySem.W.Frag) (mg : Str → Option Value) (gg : FX) (t : FA) (E : XK) : TE := fun σ H Q => ∃ O0 O r ds z, RepE K O0 O σ H r ∧ t r = some ds ∧ gg ds = some z ∧
  (∀ d, z = .ok d → ∀ v H', Same H H' → Q v H') ∧ (∀ c, z = .error c → ∀ V H', mg c = some V → Same H H' → E V none H')
theorem tCXn_of {K : PySem.W.Frag} {mg : Str → Option Value} {gg : FX} {t : FA} {E : XK} {σ : L2.St} {H : Hp} {Q : VK} (q : tCXn K mg gg t E σ H Q) : tCX K mg gg t E σ H Q := by
  obtain ⟨O0, O, r, ds, z, R, e, ez, q1, q2⟩ := q
  exact ⟨O0, O, r, ds, z, R, e, ez, fun d hd v H' s _ => q1 d hd v H' s, q2⟩
section
variable {X : Cx} {T : List (Addr × Str)} {okC : String → Bool} {W : Option String → Option Dt} {gg : FX} {t : FA} {x xw x1 x2 x3 cn : Str} {stK : Stmt} {CS c P : Addr} {k kw : Nat} {psw : List Str} {params : Arguments} {body : Expr} {scope : Scope} {pk lpos ck pw cw : Pos}
theorem dKWn (A : AvW X.prog X.w X.K X.mg X.base xw psw kw W) (hrw : Room kw X.A) (hgw : Gl X xw) (KD : KeptD X.K X.mg x x1 x2 x3 cn stK CS) (hg : Gl X x) (KT : KeepT X.K X.mg CS okC)
    (TB : TabB X.base X.mg c P) (hcode : X.env.code = .ref c) (hmT : (P, lamQ X.env.qual) ∈ T) (hu : ∀ p ∈ T, p.1 = P → p.2 = lamQ X.env.qual) (hr : Room (k + 2) X.A) (L : LamS X.env.scope scope) (hdef : defaultsOf params X.env = ([], []))
    (hbind : ∀ (q : Str) (cl : List (Str × Addr)) (pm cv ctv : Value), bindArgs (PySem.W.kla_fn "<lambda>" q params body scope cl pm cv ctv) ⟨[], []⟩ = pure [])
    (hbody : ∀ (A : Around) (outer : List PySem.Env) (s : Shared) (H : Hp) (E : XK) (f c' : Addr), Room k (A.deeper (lamEnv X scope s.heap.objs.size f c')) → PE (lamCx X A outer s H E scope f c') body (tCXn X.K X.mg gg t E))
    (hdb : (x == ("__debug__" : Str)) = false := by decide) (hdw : (xw == ("__debug__" : Str)) = false := by decide)
    (he : starEach [.Call (.Name x pk) [.Lambda params body scope lpos] [] ck] X.env = (false, eval (.Call (.Name x pk) [.Lambda params body scope lpos] [] ck) X.env) :: starEach [] X.env := by rfl) (hpl : (backTo cw (starEach [] X.env)).any (·.1) = false := by rfl) :
    PE X (.Call (.Name xw pw) [.Call (.Name x pk) [.Lambda params body scope lpos] [] ck] [] cw) (tEL X.K T (eKW okC W gg t)) := by
  obtain ⟨⟨g, fd, Fn, hm, hb⟩, Sg, ⟨j, p1, p2, p3, p4, p5, p6, p7, p8, p9, p10, p11, p12, p13, p14, eb⟩, nm, gc, l1, l2, l3, cls, dc, d1, d2, d3, e1, e2, e3⟩ := KD
  obtain ⟨fw, fdw, Fw, hmw, hkw, hbw⟩ := A
  obtain ⟨oc, od, dV, kV, doc, pm, an, cdv, ct, osl, rfl, lk, hcd, _, _⟩ := id Fn.ex
  have G : GivesTo X [x1, x2, x3] x (defScope stK) g cdv (defBody stK) x1 (X.env.qual ++ "<lambda>") (TKept X.K CS) := by
    rw [eb]
    exact kept_gives nm Sg.nd Sg.kind gc cls dc l1 l2 l3 d2 d3 e2 e3
  have hk := pe_lamcall (p := pk) (lpos := lpos) (pos := ck) hg hm Fn.kp lk hcd hb Sg rfl (.inl l1) G TB hcode hmT hu hr L hdef hbind hbody hdb d1 e1
  refine (pe_call Fw hrw hgw hmw hkw hbw .nil pass0 (pa_cons hk pa_nil he) hdw he hpl).imp fun σ H Q ⟨O0, O, r, d, R, it, e, q⟩ => ?_
  unfold eKW at e
  obtain ⟨ds, ed, e⟩ := Option.bind_eq_some_iff.mp e
  obtain ⟨z, ez, e⟩ := Option.bind_eq_some_iff.mp e
  refine ⟨it.tabs, fun H1 x1' tb1 => ?_⟩
  have R1 := R.ext it x1' tb1
  refine ⟨O0, O, r, ds, z, R1, ed, ez, fun d' hd v H2 s2 => ?_, fun cc hc V H2 hV s2 => ?_⟩
  · subst hd
    have x2' := x1'.trans (same_ext s2)
    exact ⟨O, .non, none, d, rfl, R1.trk.mn s2, rfl, e, fun v H3 s3 rv => q v H3 (x2'.trans (same_ext s3)) ((tb1.ext s2).ext s3) rv⟩
  · subst hc
    simp only at e
    split at e
    · rename_i ho
      obtain ⟨C, rfl, h1, h2⟩ := KT cc ho V hV
      refine ⟨h2, fun a ha => ?_⟩
      have s3 := same_new (o := ExK (.ref C) none a) ha
      have t2 := R1.trk.mn s2
      have x3' := x1'.trans (same_ext (s2.trans s3))
      exact ⟨O, .ref a, some cc, d, rfl, t2.mn s3, ⟨a, C, rfl, h1, hide_in (t2.no ha) upd_same⟩, e, fun v H4 s4 rv => q v H4 (x3'.trans (same_ext s4)) (((tb1.ext s2).ext s3).ext s4) rv⟩
    · cases e
end
/-! ### Stroll(size, pose) -/
/-- two needs, one behind the other -/
def twoX (X1 X2 : FX) : FX := fun ds => match ds with
  | [a, b] => (X1 [a]).bind fun z => match z with
    | .error c => some (.error c)
    | .ok _ => (X2 [b]).bind fun z => match z with
      | .error c => some (.error c)
      | .ok _ => some (.ok .none)
  | _ => none
theorem twoX_len {X1 X2 : FX} {ds : List Dt} {z : Except String Dt} (h : twoX X1 X2 ds = some z) : ds.length = 2 := by
  match ds, h with
  | [a, b], _ => rfl
def clsBody : Stmt → List Stmt
  | .ClassDef _ _ _ b _ _ _ _ _ _ _ => b
  | _ => []
def spI (K : PySem.W.Frag) (mg : Str → Option Value) (C : Addr) (g : FX) (n1 n2 n3 : Str) : Sp := fun vs H Q E => ∃ x dx a b O ds z, vs = [.ref x, a, b] ∧ H x = some (.ins C dx []) ∧ x ∈ O ∧ Trk O H ∧ RpAll K (hide O H) [a, b] ds ∧ g ds = some z ∧
  (∀ d, z = .ok d → ∀ H', (∀ b o, b ≠ x → H b = some o → H' b = some o) → H' x = some (.ins C dx [(n1, a), (n2, b), (n3, .int 0)]) → Q .non H') ∧ (∀ c, z = .error c → ∀ V H', mg c = some V → Same H H' → E V none H')
section
variable {P : Program} {w : World} {K : PySem.W.Frag} {mg : Str → Option Value} {base : Heap} {x qual : Str} {params : Arguments} {body : List Stmt} {scope : Scope} {f C : Addr} {fd : FuncData} {k kk k1 k2 : Nat} {X1 X2 : FX} {f1 f2 s p q n1 n2 n3 : Str}
theorem fn_init {p0 p1 p2 p3 p4 p5 p6 p7 p8 p9 p10 p11 p12 p13 p14 p15 p16 : Pos} {j : Nat} (Fn : FunD K x qual params body scope [] [] f fd) (S : FnScope [s, p, q] [s, p, q] scope)
    (hbody : body = [.Expr (.Call (.Name f1 p0) [.Name p p1] [] p2) p3, .Expr (.Call (.Name f2 p4) [.Name q p5] [] p6) p7, .Assign [.Attribute (.Name s p8) n1 p9] (.Name p p10) p11, .Assign [.Attribute (.Name s p12) n2 p13] (.Name q p14) p15, .Assign [.Attribute (.Name s p16) n3 p0'] (.Constant (.int 0) j p1') p2'])
    (A1 : AvX P w K mg base f1 [q1] k1 X1) (A2 : AvX P w K mg base f2 [q2] k2 X2) (hk1 : k1 ≤ k) (hk2 : k2 ≤ k) (cls : Cls K C) (a1 : NoAttr K C n1) (a2 : NoAttr K C n2) (a3 : NoAttr K C n3)
    (g1 : scope.names.lookup f1 = some .globalImplicit) (g2 : scope.names.lookup f2 = some .globalImplicit) (ls : scope.names.lookup s = some .local) (lp : scope.names.lookup p = some .local) (lq : scope.names.lookup q = some .local)
    (h12 : n1 ≠ n2) (h13 : n1 ≠ n3) (h23 : n2 ≠ n3)
    (df1 : (f1 == ("__debug__" : Str)) = false) (df2 : (f2 == ("__debug__" : Str)) = false) (ds_ : (s == ("__debug__" : Str)) = false) (dp : (p == ("__debug__" : Str)) = false) (dq : (q == ("__debug__" : Str)) = false)
    (es : (s == ("__classdict__" : Str)) = false) (ep : (p == ("__classdict__" : Str)) = false) (eq : (q == ("__classdict__" : Str)) = false) :
    FnOk P w K mg base (L2.CX P w) (k + 1) f fd [s, p, q] (spI K mg C (twoX X1 X2) n1 n2 n3) := by
  subst hbody
  refine Fn.ok S (fun vs H Q E h => ?_) (fun cdv A outer s0 H vs Q E hr h => ?_)
  · obtain ⟨x, dx, a, b, O, ds, z, rfl, _⟩ := h; rfl
  · have tk : L2.Takes (cxOf (L2.CX P w) P w K mg base [s, p, q] qual scope f cdv A outer s0 H E) (fun cls d _ H => E cls d H) := takes_of rfl rfl rfl rfl
    have hs0 : PE (cxOf (L2.CX P w) P w K mg base [s, p, q] qual scope f cdv A outer s0 H E) (.Name s p8) (tVar 0) := pe_var (i := 0) rfl (.inl ls) ds_ es
    refine ⟨_, pss_cons (ps_expr (eCallX A1 (hr.mono hk1) g1 tk (aCons_ (dVar (pe_var (i := 1) rfl (.inl lp) dp ep)) aNil_) df1)) (pss_cons (ps_expr (eCallX A2 (hr.mono hk2) g2 tk (aCons_ (dVar (pe_var (i := 2) rfl (.inl lq) dq eq)) aNil_) df2))
      (pss_cons (ps_fld (pe_var (i := 0) rfl (.inl ls) ds_ es) (pe_var (i := 1) rfl (.inl lp) dp ep) rfl) (pss_cons (ps_fld (pe_var (i := 0) rfl (.inl ls) ds_ es) (pe_var (i := 2) rfl (.inl lq) dq eq) rfl) (pss_one (ps_fld (pe_var (i := 0) rfl (.inl ls) ds_ es) pe_int rfl))))), ?_⟩
    obtain ⟨x, dx, a, b, O, ds, z, rfl, hx, hxO, t, ra, ez, q1, q2⟩ := h
    obtain ⟨d1, d2, rfl, r1, r2⟩ : ∃ d1 d2, ds = [d1, d2] ∧ Rp K (hide O H) a d1 ∧ Rp K (hide O H) b d2 := by
      cases ra with
      | cons h1 h2 =>
        cases h2 with
        | cons h2 h3 =>
          cases h3
          exact ⟨_, _, rfl, h1, h2⟩
    have R : RepE K O O [some (.ref x), some a, some b] H [none, some (.d d1), some (.d d2)] := by
      refine ⟨⟨rfl, fun i d e => ?_, fun i xs e => ?_, fun i xs e => ?_, fun i c e => ?_, fun i j p xs ys _ e => ?_, t, fun p h => h, fun p h => .inl h⟩, RepB.none fun i s e => ?_⟩
      rotate_right
      · match i, e with
        | 1, e => cases e; rfl
        | 2, e => cases e; rfl
        | n + 3, e => cases e
      · match i, e with
        | 1, e => cases e; exact ⟨a, rfl, r1⟩
        | 2, e => cases e; exact ⟨b, rfl, r2⟩
        | n + 3, e => cases e
      all_goals
        match i, e with
        | n + 3, e => cases e
    unfold twoX at ez
    obtain ⟨z1, e1, ez⟩ := Option.bind_eq_some_iff.mp ez
    refine ⟨O, O, _, [d1], z1, R, rfl, e1, fun y hy v H1 s1 _ => ?_, fun c hc V H1 hV s1 => ?_⟩
    · subst hy
      obtain ⟨z2, e2, ez⟩ := Option.bind_eq_some_iff.mp ez
      refine ⟨O, O, _, [d2], z2, R.mn s1, rfl, e2, fun y hy v H2 s2 _ => ?_, fun c hc V H2 hV s2 => ?_⟩
      · subst hy
        cases ez
        have hx2 := s2 _ _ (s1 _ _ hx)
        have l0 : ([] : List (Str × V)).length < 1000 := by decide
        have st1 : ∀ o H3, upd H2 x o = H3 → ∀ b o', b ≠ x → H b = some o' → H3 b = some o' := fun o H3 e b o' n hb => by
          subst e
          rw [upd_ne n]
          exact s2 _ _ (s1 _ _ hb)
        refine ⟨a, rfl, .ref x, rfl, x, C, dx, [], rfl, hx2, cls, a1, by decide, ?_⟩
        refine ⟨b, rfl, .ref x, rfl, x, C, dx, _, rfl, upd_same, cls, a2, by simp [putF], ?_⟩
        refine ⟨.ref x, rfl, x, C, dx, _, rfl, upd_same, cls, a3, ?_, ?_⟩
        · simp [putF, h12]
        · refine q1 _ rfl _ (fun b' o' n hb => ?_) ?_
          · rw [upd_ne n, upd_ne n, upd_ne n]
            exact s2 _ _ (s1 _ _ hb)
          · rw [upd_same]
            simp [putF, h12, h13, h23]
      · subst hc
        cases ez
        exact q2 _ rfl V H2 hV (s1.trans s2)
    · subst hc
      cases ez
      exact q2 _ rfl V H1 hV s1
/-- a class that can be made -/
def AvI (P : Program) (w : World) (K : PySem.W.Frag) (mg : Str → Option Value) (base : Heap) (x : Str) (k : Nat) (g : FX) (n1 n2 n3 : Str) (C : Addr) : Prop :=
  ∃ (fa : Addr) (fd : FuncData) (ps : List Str) (k' : Nat), k = k' + 1 ∧ Mk K C fa ∧ FnOk P w K mg base (L2.CX P w) k' fa fd ps (spI K mg C g n1 n2 n3) ∧ mg x = some (.ref C) ∧ Binds K fd ps []
end
section
variable {X : Cx} {a : Expr} {es : List Expr} {t : FA} {k : Nat} {gg : FX} {x n1 n2 n3 : Str} {C : Addr} {p pos : Pos} {E : XK}
theorem eMakeX (A : AvI X.prog X.w X.K X.mg X.base x k gg n1 n2 n3 C) (hr : Room k X.A) (hg : Gl X x) (tk : Takes X (fun cls d _ H => E cls d H)) (h2 : ∀ ds z, gg ds = some z → ds.length = 2)
    (ha : PA X (a :: es) (tDA X.K t)) (hdb : (x == ("__debug__" : Str)) = false := by decide) (he : starEach (a :: es) X.env = (false, eval a X.env) :: starEach es X.env := by rfl)
    (hpl : (backTo pos (starEach es X.env)).any (·.1) = false := by rfl) : PE X (.Call (.Name x p) (a :: es) [] pos) (tCXn X.K X.mg gg t E) := by
  obtain ⟨fa, fd, ps, k', rfl, M, F, gl, bd⟩ := A
  refine (pe_make M F hr hg gl bd .nil (passes_call tk fun _ _ _ _ h => h) ha hdb he hpl).imp fun σ H Q ⟨O0, O, r, ds, z, R, e, ez, q1, q2⟩ => ?_
  refine ⟨O0, O, r, ds, R, e, fun vs H1 s1 ra y dy hy hdy hne => ?_⟩
  obtain ⟨u1, u2, rfl⟩ : ∃ u1 u2, vs = [u1, u2] := by
    have hl := ra.length
    rw [h2 _ _ ez] at hl
    match vs, hl with
    | [u1, u2], _ => exact ⟨_, _, rfl⟩
  have sm1 : Same H1 (upd H1 dy (.own y)) := same_new hdy
  have hy' : upd H1 dy (.own y) y = none := by rw [upd_ne (fun w => hne w.symm)]; exact hy
  have sm2 : Same H1 (upd (upd H1 dy (.own y)) y (.ins C dy [])) := sm1.trans (same_new hy')
  have t1 := (R.trk.mn s1).mn sm2
  have t2 : Trk (y :: O) (upd (upd H1 dy (.own y)) y (.ins C dy [])) := fun b hb => by
    rcases List.mem_cons.mp hb with rfl | hb
    · exact ⟨_, upd_same⟩
    · exact t1 b hb
  have hd : Same (hide O H1) (hide (y :: O) (upd (upd H1 dy (.own y)) y (.ins C dy []))) := fun b o hb => by
    have h0 := hide_sub b o hb
    have hn : b ∉ O := fun m => by unfold hide at hb; rw [if_pos m] at hb; cases hb
    have hby : b ≠ y := fun w => by rw [w, hy] at h0; cases h0
    exact hide_in (by simp [hn, hby]) (sm2 b o h0)
  refine ⟨y, dy, u1, u2, y :: O, ds, z, by simp, upd_same, List.mem_cons_self, t2, ra.mn hd, ez, fun d hd' H' k1 _ => ⟨rfl, q1 d hd' _ H' fun b o hb => ?_⟩, fun c hc V H' hV s3 => q2 c hc V H' hV ((s1.trans sm2).trans s3)⟩
  have hb1 := s1 b o hb
  exact k1 b o (fun w => by rw [w, hy] at hb1; cases hb1) (sm2 b o hb1)
end
end BL

set_option Elab.async false
set_option linter.all false
set_option maxRecDepth 100000
/-! Objects: fields, methods. -/
namespace BL
open PySem PySem.Spec PyProof.Rows L2 LamX
/-- what is known of the class -/
structure StK (K : PySem.W.Frag) : Prop where
  cls : Cls K (StC K)
  a1 : NoAttr K (StC K) "size"
  a2 : NoAttr K (StC K) "pose"
  a3 : NoAttr K (StC K) "at"
theorem StK.no {K : PySem.W.Frag} (h : StK K) : ∀ {j : Nat} {f : Str}, stN[j]? = some f → NoAttr K (StC K) f
  | 0, _, e => by cases e; exact h.a1
  | 1, _, e => by cases e; exact h.a2
  | 2, _, e => by cases e; exact h.a3
  | n + 3, _, e => by cases e
theorem three {α : Type} {ws : List α} (h : ws.length = 3) : ∃ a b c, ws = [a, b, c] := by
  match ws, h with
  | [a, b, c], _ => exact ⟨a, b, c, rfl⟩
theorem stN_get : ∀ {j : Nat} {f : Str} {ws : List V} {v : V}, stN[j]? = some f → ws.length = 3 → ws[j]? = some v → (stN.zip ws).lookup f = some v := fun {j f ws v} e h hv => by
  obtain ⟨a, b, c, rfl⟩ := three h
  match j, e with
  | 0, e => cases e; cases hv; rfl
  | 1, e => cases e; cases hv; rfl
  | 2, e => cases e; cases hv; rfl
theorem stN_put : ∀ {j : Nat} {f : Str} {ws : List V} {v : V}, stN[j]? = some f → ws.length = 3 → putF f v (stN.zip ws) = stN.zip (ws.set j v) := fun {j f ws v} e h => by
  obtain ⟨a, b, c, rfl⟩ := three h
  match j, e with
  | 0, e => cases e; rfl
  | 1, e => cases e; rfl
  | 2, e => cases e; rfl
theorem stN_len {ws : List V} (h : ws.length = 3) : (stN.zip ws).length < 1000 := by
  obtain ⟨a, b, c, rfl⟩ := three h
  show 3 < 1000
  decide
section
variable {K : PySem.W.Frag} {O0 O : List Addr} {σ : L2.St} {H : Hp} {r : Env}
theorem HoIs.pl {a : Addr} {k : Bool} {ws : List V} (h : HoIs K H a k ws) : ∃ o, H a = some o ∧ Pl o := by
  cases k with
  | true => obtain ⟨_, dx, e⟩ := h; exact ⟨_, e, trivial⟩
  | false => exact ⟨_, h, trivial⟩
/-- a box is written -/
theorem RepE.upBox (R : RepE K O0 O σ H r) {i : Nat} {k : Bool} {a : Addr} {xs ys : List Dt} {u : HO} {ws : List V} (hi : r[i]? = some (some (.obj true k a xs))) (hu : HoIs K (upd H a u) a k ws) (ra : RpAll K (hide O H) ws ys) :
    RepE K O0 O σ (upd H a u) (r.set i (some (.obj true k a ys))) := by
  obtain ⟨ws0, h1, h2, h3, h4, h5⟩ := R.bx.obj i _ k a xs hi
  have h3 := h3 rfl
  have hh : hide O (upd H a u) = hide O H := hide_upd h2
  have hl : i < r.length := (List.getElem?_eq_some_iff.mp hi).1
  have nd : ∀ (j : Nat) s, (r.set i (some (.obj true k a ys)))[j]? = some (some s) → isBx s = false → r[j]? = some (some s) ∧ i ≠ j := fun j s h hb => by
    by_cases e : i = j
    · subst e
      rw [List.getElem?_set_self hl] at h
      cases h
      cases hb
    · rw [List.getElem?_set_ne e] at h
      exact ⟨h, e⟩
  have ne : ∀ (j : Nat) s q, r[j]? = some (some s) → i ≠ j → Fp σ H j s q → q ≠ a := fun j s q hj n f z => by
    subst z
    exact R.bx.sep i j _ s q n hi hj rfl h1 f
  have off : ∀ (j : Nat) t, (r.set i (some (.obj true k a ys)))[j]? = some (some t) → (i ≠ j ∧ r[j]? = some (some t)) ∨ (i = j ∧ t = .obj true k a ys) := fun j t h => by
    by_cases e : i = j
    · subst e
      rw [List.getElem?_set_self hl] at h
      exact .inr ⟨rfl, (Option.some.inj (Option.some.inj h)).symm⟩
    · rw [List.getElem?_set_ne e] at h
      exact .inl ⟨e, h⟩
  have back : ∀ (j : Nat) t q, r[j]? = some (some t) → i ≠ j → Fp σ (upd H a u) j t q → Fp σ H j t q := fun j t q hj n f => by
    cases t with
    | bxs k' xss =>
      obtain ⟨p, as, g1, g2, g3, g4, _⟩ := R.bx.bxs j k' xss hj
      rcases (show _ ∨ _ from f) with f | ⟨p', as', f1, f2, f3⟩
      · exact .inl f
      · rw [g1] at f1
        cases f1
        rw [upd_ne (ne j _ p hj n (.inl g1)), g4] at f2
        have e := refs_inj (HO.lst.inj (Option.some.inj f2))
        subst e
        exact .inr ⟨p, as, g1, g4, f3⟩
    | _ => exact f
  refine ⟨⟨by rw [List.length_set, R.len], fun j x hj => ?_, fun j zs hj => ?_, fun j zs hj => ?_, fun j c hj => ?_, fun b c q us zs bc hb hc vb vc => ?_, fun q hq => ?_, R.sub, fun q hq => ?_⟩, fun j b k' p zs hj => ?_, fun j k' xss hj => ?_, fun b c s t q bc hb hc h6 f1 f2 => ?_⟩
  · rw [hh]
    exact R.dat j x (nd j _ hj rfl).1
  · obtain ⟨hj', n⟩ := nd j _ hj rfl
    obtain ⟨q, us, g1, g2, g3, g4, g5⟩ := R.own j zs hj'
    exact ⟨q, us, g1, g2, g3, by rw [upd_ne (ne j _ q hj' n g1)]; exact g4, by rw [hh]; exact g5⟩
  · rw [hh]
    exact R.scr j zs (nd j _ hj rfl).1
  · rw [hh]
    exact R.exc j c (nd j _ hj rfl).1
  · exact R.inj b c q us zs bc (nd b _ hb rfl).1 (nd c _ hc rfl).1 vb vc
  · by_cases e : q = a
    · subst e; exact ⟨u, upd_same⟩
    · obtain ⟨o, h⟩ := R.trk q hq
      exact ⟨o, by rw [upd_ne e]; exact h⟩
  · by_cases e : q = a
    · subst e; exact .inr hu.pl
    · exact (R.nt q hq).imp id fun ⟨o, h, y⟩ => ⟨o, by rw [upd_ne e]; exact h, y⟩
  · rcases off j _ hj with ⟨n, hj'⟩ | ⟨n, e⟩
    · obtain ⟨ws', g1, g2, g3, g4, g5⟩ := R.bx.obj j b k' p zs hj'
      exact ⟨ws', g1, g2, g3, g4.to fun o h _ => by rw [upd_ne (ne j _ p hj' n g1)]; exact h, by rw [hh]; exact g5⟩
    · subst n
      cases e
      exact ⟨ws, h1, h2, fun _ => h3, hu, by rw [hh]; exact ra⟩
  · rcases off j _ hj with ⟨n, hj'⟩ | ⟨_, e⟩
    · obtain ⟨p, as, g1, g2, g3, g4, g5, g6, g7, g8⟩ := R.bx.bxs j k' xss hj'
      refine ⟨p, as, g1, g2, g3, by rw [upd_ne (ne j _ p hj' n (.inl g1))]; exact g4, g5, g6, g7, fun m b zs hb hz => ?_⟩
      obtain ⟨z1, z2, ws', z3, z4⟩ := g8 m b zs hb hz
      exact ⟨z1, z2, ws', z3.to fun o h _ => by rw [upd_ne (ne j _ b hj' n (.inr ⟨p, as, g1, g4, List.mem_of_getElem? hb⟩))]; exact h, by rw [hh]; exact z4⟩
    · cases e
  · rcases off b _ hb with ⟨n, hb'⟩ | ⟨n, e⟩
    · have k1 := back b s q hb' n f1
      rcases off c _ hc with ⟨m, hc'⟩ | ⟨m, e⟩
      · exact R.bx.sep b c s t q bc hb' hc' h6 k1 (back c t q hc' m f2)
      · subst m e
        have f2' : σ[i]? = some (some (.ref q)) := f2
        rw [h1] at f2'
        cases f2'
        exact ne b s _ hb' n k1 rfl
    · subst n e
      have f1' : σ[i]? = some (some (.ref q)) := f1
      rw [h1] at f1'
      cases f1'
      rcases off c _ hc with ⟨m, hc'⟩ | ⟨m, e⟩
      · exact ne c t _ hc' m (back c t _ hc' m f2) rfl
      · exact bc m
end
/-! ### fields -/
@[simp] def eFld (i j : Nat) (r : Env) : Option Dt := match r[i]? with
  | some (some (.obj _ true _ xs)) => xs[j]?
  | _ => none
/-- self.f = e -/
def putObj (i j : Nat) (x : Dt) (r : Env) : Option Env := match r[i]? with
  | some (some (.obj true true a xs)) => if j < xs.length then some (r.set i (some (.obj true true a (xs.set j x)))) else none
  | _ => none
@[simp] def sPutFld (i j : Nat) (f : FE) (r : Env) : Option SOut := (f r).bind fun x => (putObj i j x r).bind fun r1 => some (.nx r1)
@[simp] def sPutFldX (i j : Nat) (g : FX) (t : FA) (r : Env) : Option SOut := (t r).bind fun ds => (g ds).bind fun z => match z with
  | .ok x => (putObj i j x r).bind fun r1 => some (.nx r1)
  | .error c => some (.exc c)
section
variable {X : Cx} {e : Expr} {f : FE} {F : FS} {x : Str} {i j : Nat} {p p2 pos : Pos} {nm : Str} {E : XK}
theorem dFld (SK : StK X.K) (hx : PE X (.Name x p) (tVar i)) (hf : stN[j]? = some nm) (hb : attributeBase (.Name x p) nm X.env (eval (.Name x p) X.env) = eval (.Name x p) X.env := by rfl) : PE X (.Attribute (.Name x p) nm pos) (tD X.K (eFld i j)) :=
  (pe_fld hx hb).imp fun σ H Q ⟨O0, O, r, d, R, ee, q⟩ => by
    unfold eFld at ee
    split at ee
    · rename_i b a xs hi
      obtain ⟨ws, h1, h2, h3, ⟨h4, dx, h5⟩, h6⟩ := R.bx.obj i _ _ _ _ hi
      obtain ⟨v, hv, rv⟩ := h6.get ee
      exact ⟨_, h1, a, _, dx, _, v, rfl, h5, SK.cls, SK.no hf, stN_get hf h4 hv, q v H (Same.refl H) rv⟩
    · cases ee
theorem put_obj {K : PySem.W.Frag} {O0 O : List Addr} {σ : L2.St} {H : Hp} {r r1 : Env} {v : V} {d : Dt} (SK : StK K) (R : RepE K O0 O σ H r) (rv : Rp K (hide O H) v d) (hf : stN[j]? = some nm) (e : putObj i j d r = some r1) :
    ∃ a dx ws, σ[i]? = some (some (.ref a)) ∧ H a = some (.ins (StC K) dx (stN.zip ws)) ∧ (stN.zip ws).length < 1000 ∧ RepE K O0 O σ (upd H a (.ins (StC K) dx (putF nm v (stN.zip ws)))) r1 ∧ Later O0 O H O (upd H a (.ins (StC K) dx (putF nm v (stN.zip ws)))) := by
  unfold putObj at e
  split at e
  · rename_i a xs hi
    split at e
    · cases e
      obtain ⟨ws, h1, h2, h3, ⟨h4, dx, h5⟩, h6⟩ := R.bx.obj i _ _ _ _ hi
      refine ⟨a, dx, ws, h1, h5, stN_len h4, ?_, later_upd h2 (h3 rfl) ⟨_, h5⟩⟩
      rw [stN_put hf h4]
      exact R.upBox hi ⟨by rw [List.length_set]; exact h4, dx, upd_same⟩ (RpAll.put rv j h6)
    · cases e
  · cases e
theorem zPutFld (SK : StK X.K) (hx : PE X (.Name x p) (tVar i)) (hf : stN[j]? = some nm) (he : PE X e (tD X.K f)) (hs : swapsWith e (some (.Attribute (.Name x p) nm p2)) pos.line X.env = pure false := by rfl) : PS X (.Assign [.Attribute (.Name x p) nm p2] e pos) (tsD X.K (sPutFld i j f)) :=
  (ps_fld hx he hs).imp fun D σ H ⟨O0, O, r, o, R, ee, q⟩ => by
    unfold sPutFld at ee
    obtain ⟨d, ed, ee⟩ := Option.bind_eq_some_iff.mp ee
    obtain ⟨r1, e1, ee⟩ := Option.bind_eq_some_iff.mp ee
    cases ee
    refine ⟨O0, O, r, d, R, ed, fun v H1 s1 rv => ?_⟩
    obtain ⟨a, dx, ws, h1, h2, h3, h4, h5⟩ := put_obj SK (R.mn s1) rv hf e1
    exact ⟨_, h1, a, _, dx, _, rfl, h2, SK.cls, SK.no hf, h3, q O σ _ ((Later.same s1).trans h5) h4⟩
theorem xPutFldX {g : FX} {t : FA} (SK : StK X.K) (hx : PE X (.Name x p) (tVar i)) (hf : stN[j]? = some nm) (he : PE X e (tCX X.K X.mg g t E)) (hs : swapsWith e (some (.Attribute (.Name x p) nm p2)) pos.line X.env = pure false := by rfl) : PS X (.Assign [.Attribute (.Name x p) nm p2] e pos) (tsX X.K X.mg E (sPutFldX i j g t)) :=
  (ps_fld hx he hs).imp fun D σ H ⟨O0, O, r, o, R, ee, q⟩ => by
    unfold sPutFldX at ee
    obtain ⟨ds, ed, ee⟩ := Option.bind_eq_some_iff.mp ee
    obtain ⟨z, ez, ee⟩ := Option.bind_eq_some_iff.mp ee
    refine ⟨O0, O, r, ds, z, R, ed, ez, fun d hd v H1 s1 rv => ?_, fun c hc V H1 hV s1 => ?_⟩
    · subst hd
      obtain ⟨r1, e1, ee⟩ := Option.bind_eq_some_iff.mp ee
      cases ee
      obtain ⟨a, dx, ws, h1, h2, h3, h4, h5⟩ := put_obj SK (R.mn s1) rv hf e1
      exact ⟨_, h1, a, _, dx, _, rfl, h2, SK.cls, SK.no hf, h3, q O σ _ ((Later.same s1).trans h5) h4⟩
    · subst hc
      cases ee
      exact q O V H1 hV (Later.same s1)
end
end BL

set_option Elab.async false
set_option linter.all false
set_option maxRecDepth 100000
/-! Methods, and defs that take an object. -/
namespace BL
open PySem PySem.Spec PyProof.Rows L2 LamX
abbrev Bx3 := Bool × Nat × List Dt
def startB (n : Nat) (b : Bool) (bs : List Bx3) (ds : List Dt) : Env := bs.map (fun x => some (.obj b x.1 x.2.1 x.2.2)) ++ startD (n - bs.length) ds
theorem sb_get {n : Nat} {b : Bool} {bs : List Bx3} {ds : List Dt} {i : Nat} {s : Sl} (h : (startB n b bs ds)[i]? = some (some s)) : (∃ x, bs[i]? = some x ∧ s = .obj b x.1 x.2.1 x.2.2) ∨ (bs.length ≤ i ∧ ∃ d, ds[i - bs.length]? = some d ∧ s = .d d) := by
  unfold startB at h
  by_cases hi : i < bs.length
  · rw [List.getElem?_append_left (by rw [List.length_map]; exact hi), List.getElem?_map, List.getElem?_eq_getElem hi] at h
    exact .inl ⟨_, List.getElem?_eq_getElem hi, (Option.some.inj (Option.some.inj h)).symm⟩
  · rw [List.getElem?_append_right (by rw [List.length_map]; omega), List.length_map] at h
    obtain ⟨d, h1, h2⟩ := sd_get h
    exact .inr ⟨by omega, d, h1, h2⟩
theorem rep_startB {K : PySem.W.Frag} {O0 O : List Addr} {H : Hp} {N : List Str} {b : Bool} {bs : List Bx3} {vs : List V} {ds : List Dt} (t : Trk O H) (h : RpAll K (hide O H) vs ds) (nd : (bs.map (·.2.1)).Nodup)
    (hb : ∀ x ∈ bs, x.2.1 ∈ O ∧ (b = true → x.2.1 ∉ O0) ∧ ∃ ws, HoIs K H x.2.1 x.1 ws ∧ RpAll K (hide O H) ws x.2.2) (sub : ∀ p ∈ O0, p ∈ O) (nt : ∀ p ∈ O, p ∈ O0 ∨ ∃ o, H p = some o ∧ Pl o) :
    RepE K O0 O (L2.start N (bs.map (fun x => V.ref x.2.1) ++ vs)) H (startB N.length b bs ds) := by
  have hl := h.length
  have low : ∀ (i : Nat) x, bs[i]? = some x → (L2.start N (bs.map (fun x => V.ref x.2.1) ++ vs))[i]? = some (some (.ref x.2.1)) := fun i x e => by
    have hi := (List.getElem?_eq_some_iff.mp e).1
    unfold L2.start
    rw [List.getElem?_append_left (by simp; omega), List.getElem?_map, List.getElem?_append_left (by simpa using hi), List.getElem?_map, e]
    rfl
  refine ⟨⟨?_, fun i d e => ?_, fun i xs e => ?_, fun i xs e => ?_, fun i c e => ?_, fun i j p xs ys _ e => ?_, t, sub, nt⟩, fun i b' k p xs e => ?_, fun i k xss e => ?_, fun i j s u q ij hi hj _ f1 f2 => ?_⟩
  · unfold L2.start startB startD
    simp only [List.length_append, List.length_map, List.length_replicate]
    omega
  · rcases sb_get e with ⟨x, _, e1⟩ | ⟨hge, d', hd, e1⟩
    · cases e1
    · cases e1
      obtain ⟨v, h1, h2⟩ := h.get hd
      refine ⟨v, ?_, h2⟩
      have hi := (List.getElem?_eq_some_iff.mp h1).1
      unfold L2.start
      rw [List.getElem?_append_left (by simp; omega), List.getElem?_map, List.getElem?_append_right (by simpa using hge), List.length_map, h1]
      rfl
  · rcases sb_get e with ⟨x, _, e1⟩ | ⟨_, _, _, e1⟩ <;> cases e1
  · rcases sb_get e with ⟨x, _, e1⟩ | ⟨_, _, _, e1⟩ <;> cases e1
  · rcases sb_get e with ⟨x, _, e1⟩ | ⟨_, _, _, e1⟩ <;> cases e1
  · rcases sb_get e with ⟨x, _, e1⟩ | ⟨_, _, _, e1⟩ <;> cases e1
  · rcases sb_get e with ⟨x, hx, e1⟩ | ⟨_, _, _, e1⟩
    · cases e1
      obtain ⟨z1, z2, ws, z3, z4⟩ := hb x (List.mem_of_getElem? hx)
      exact ⟨ws, low i x hx, z1, z2, z3, z4⟩
    · cases e1
  · rcases sb_get e with ⟨x, _, e1⟩ | ⟨_, _, _, e1⟩ <;> cases e1
  · rcases sb_get hi with ⟨x, hx, e1⟩ | ⟨_, _, _, e1⟩
    · rcases sb_get hj with ⟨y, hy, e2⟩ | ⟨_, _, _, e2⟩
      · subst e1 e2
        have g1 := (low i x hx).symm.trans f1
        have g2 := (low j y hy).symm.trans f2
        have k1 : x.2.1 = q := by injection g1 with g1; injection g1 with g1; injection g1
        have k2 : y.2.1 = q := by injection g2 with g2; injection g2 with g2; injection g2
        have li := (List.getElem?_eq_some_iff.mp hx).1
        have e3 : (bs.map (·.2.1))[i]? = (bs.map (·.2.1))[j]? := by
          rw [List.getElem?_map, List.getElem?_map, hx, hy]
          simp [k1, k2]
        exact ij ((List.getElem?_inj (by rw [List.length_map]; exact li) nd).mp e3)
      · subst e2; exact f2
    · subst e1; exact f1
/-! ### promises -/
abbrev GM := Nat → List Dt → List Dt → Option (Except String Dt)
def spMR (K : PySem.W.Frag) (mg : Str → Option Value) (g : GM) : Sp := fun vs H Q E => ∃ s ws vs' O xs ds z, vs = .ref s :: vs' ∧ s ∈ O ∧ HoIs K H s true ws ∧ Trk O H ∧ RpAll K (hide O H) ws xs ∧ RpAll K (hide O H) vs' ds ∧ g s xs ds = some z ∧
  (∀ d, z = .ok d → ∀ v H', Same H H' → Rp K (hide O H') v d → Q v H') ∧ (∀ c, z = .error c → ∀ V H', mg c = some V → Same H H' → E V none H')
def spMO (K : PySem.W.Frag) (g : Nat → List Dt → List Dt → Option (List Dt)) : Sp := fun vs H Q E => ∃ s ws vs' O xs ds zs, vs = .ref s :: vs' ∧ s ∈ O ∧ HoIs K H s true ws ∧ Trk O H ∧ RpAll K (hide O H) ws xs ∧ RpAll K (hide O H) vs' ds ∧ g s xs ds = some zs ∧
  ∀ p ws' H', Same H H' → H p = none → H' p = some (.lst ws') → RpAll K (hide (p :: O) H') ws' zs → Q (.ref p) H'
def spMW (K : PySem.W.Frag) (g : Nat → List Dt → List Dt → Option (List Dt)) : Sp := fun vs H Q E => ∃ s ws vs' O xs ds xs', vs = .ref s :: vs' ∧ s ∈ O ∧ HoIs K H s true ws ∧ Trk O H ∧ RpAll K (hide O H) ws xs ∧ RpAll K (hide O H) vs' ds ∧ g s xs ds = some xs' ∧
  ∀ ws' H', (∀ b o, b ≠ s → H b = some o → H' b = some o) → HoIs K H' s true ws' → RpAll K (hide O H') ws' xs' → Q .non H'
def runMR (F : FS) (n p : Nat) (a : Nat) (xs ds : List Dt) : Option (Except String Dt) := if ds.length + 1 = p then (F (startB n false [(true, a, xs)] ds)).bind outX else none
def runMO (F : FS) (n p : Nat) (a : Nat) (xs ds : List Dt) : Option (List Dt) := if ds.length + 1 = p then (F (startB n false [(true, a, xs)] ds)).bind fun o => match o with
  | .rl zs => some zs
  | _ => none else none
def objAt (i a : Nat) (k : Bool) (r : Env) : Option (List Dt) := match r[i]? with
  | some (some (.obj _ k' a' xs)) => if a' = a ∧ k' = k then some xs else none
  | _ => none
def runMW (F : FS) (n p : Nat) (a : Nat) (xs ds : List Dt) : Option (List Dt) := if ds.length + 1 = p then (F (startB n true [(true, a, xs)] ds)).bind fun o => match o with
  | .nx r => objAt 0 a true r
  | _ => none else none
section
variable {P : Program} {w : World} {K : PySem.W.Frag} {mg : Str → Option Value} {base : Heap} {x qual : Str} {params : Arguments} {body : List Stmt} {scope : Scope} {f : Addr} {fd : FuncData} {N ps : List Str} {k n p : Nat} {F : FS}
theorem fn_mR (Fn : FunD K x qual params body scope [] [] f fd) (S : FnScope N ps scope) (hn : N.length = n) (hp : ps.length = p)
    (hb : ∀ (cdv : Value) (A : Around) (outer : List PySem.Env) (s : Shared) (H : Hp) (E : XK), Room k (A.deeper (envOfC qual scope s.heap.objs.size f cdv)) → PSs (cxOf (L2.CX P w) P w K mg base N qual scope f cdv A outer s H E) body (tsX K mg E F)) :
    FnOk P w K mg base (L2.CX P w) (k + 1) f fd ps (spMR K mg (runMR F n p)) := by
  subst hn hp
  refine Fn.ok S (fun vs H Q E h => ?_) (fun cdv A outer s0 H vs Q E hr h => ⟨_, hb cdv A outer s0 H E hr, ?_⟩)
  · obtain ⟨s, ws, vs', O, xs, ds, z, rfl, _, _, _, _, ra, e, _⟩ := h
    unfold runMR at e
    split at e
    · rename_i hd
      rw [List.length_cons, ra.length]
      exact hd
    · cases e
  · obtain ⟨s, ws, vs', O, xs, ds, z, rfl, hs, hw, t, rx, ra, e, q1, q2⟩ := h
    unfold runMR at e
    split at e
    · obtain ⟨o, eo, e⟩ := Option.bind_eq_some_iff.mp e
      refine ⟨O, O, _, o, rep_startB (b := false) (bs := [(true, s, xs)]) t ra (by simp) (fun x hx => ?_) (fun _ h => h) (fun _ h => .inl h), eo, ?_⟩
      · cases List.mem_singleton.mp hx
        exact ⟨hs, fun z => (by cases z), ws, hw, rx⟩
      · cases o with
        | rt d => cases e; exact fun O' v H' L rv => q1 _ rfl v H' (fun b o' h' => L.keep b o' (fun z => z) h') rv
        | nx r => cases e; exact fun O' σ' H' L R => q1 _ rfl _ H' (fun b o' h' => L.keep b o' (fun z => z) h') .non
        | bk r => cases e
        | ct r => cases e
        | exc c => cases e; exact fun O' V H' hV L => q2 _ rfl V H' hV (fun b o' h' => L.keep b o' (fun z => z) h')
        | rl xs =>
          cases e
          exact fun O' p ws H' L hp hn hs hw ra => q1 _ rfl _ H' (fun b o' h' => L.keep b o' (fun z => z) h') (.lst (Rd.of (hide_in hn hw)) (ra.mn (hide_less hs)))
    · cases e
theorem fn_mO (Fn : FunD K x qual params body scope [] [] f fd) (S : FnScope N ps scope) (hn : N.length = n) (hp : ps.length = p)
    (hb : ∀ (cdv : Value) (A : Around) (outer : List PySem.Env) (s : Shared) (H : Hp) (E : XK), Room k (A.deeper (envOfC qual scope s.heap.objs.size f cdv)) → PSs (cxOf (L2.CX P w) P w K mg base N qual scope f cdv A outer s H E) body (tsX K mg E F)) :
    FnOk P w K mg base (L2.CX P w) (k + 1) f fd ps (spMO K (runMO F n p)) := by
  subst hn hp
  refine Fn.ok S (fun vs H Q E h => ?_) (fun cdv A outer s0 H vs Q E hr h => ⟨_, hb cdv A outer s0 H E hr, ?_⟩)
  · obtain ⟨s, ws, vs', O, xs, ds, z, rfl, _, _, _, _, ra, e, _⟩ := h
    unfold runMO at e
    split at e
    · rename_i hd
      rw [List.length_cons, ra.length]
      exact hd
    · cases e
  · obtain ⟨s, ws, vs', O, xs, ds, z, rfl, hs, hw, t, rx, ra, e, q⟩ := h
    unfold runMO at e
    split at e
    · obtain ⟨o, eo, e⟩ := Option.bind_eq_some_iff.mp e
      refine ⟨O, O, _, o, rep_startB (b := false) (bs := [(true, s, xs)]) t ra (by simp) (fun x hx => ?_) (fun _ h => h) (fun _ h => .inl h), eo, ?_⟩
      · cases List.mem_singleton.mp hx
        exact ⟨hs, fun z => (by cases z), ws, hw, rx⟩
      · cases o with
        | rl zs =>
          cases e
          refine fun O' p0 ws H' L hp hn hs hw ra => q p0 ws H' (fun b o' h' => L.keep b o' (fun z => z) h') ?_ hw (ra.mn (hide_less fun b hb => (List.mem_cons.mp hb).elim (fun z => by rw [z]; exact hp) (L.sub b)))
          rcases L.new p0 hp with z | z
          · exact absurd z hn
          · exact z
        | rt d => cases e
        | nx r => cases e
        | bk r => cases e
        | ct r => cases e
        | exc c => cases e
    · cases e
theorem fn_mW (Fn : FunD K x qual params body scope [] [] f fd) (S : FnScope N ps scope) (hn : N.length = n) (hp : ps.length = p)
    (hb : ∀ (cdv : Value) (A : Around) (outer : List PySem.Env) (s : Shared) (H : Hp) (E : XK), Room k (A.deeper (envOfC qual scope s.heap.objs.size f cdv)) → PSs (cxOf (L2.CX P w) P w K mg base N qual scope f cdv A outer s H E) body (tsX K mg E F)) :
    FnOk P w K mg base (L2.CX P w) (k + 1) f fd ps (spMW K (runMW F n p)) := by
  subst hn hp
  refine Fn.ok S (fun vs H Q E h => ?_) (fun cdv A outer s0 H vs Q E hr h => ⟨_, hb cdv A outer s0 H E hr, ?_⟩)
  · obtain ⟨s, ws, vs', O, xs, ds, z, rfl, _, _, _, _, ra, e, _⟩ := h
    unfold runMW at e
    split at e
    · rename_i hd
      rw [List.length_cons, ra.length]
      exact hd
    · cases e
  · obtain ⟨s, ws, vs', O, xs, ds, z, rfl, hs, hw, t, rx, ra, e, q⟩ := h
    unfold runMW at e
    split at e
    · obtain ⟨o, eo, e⟩ := Option.bind_eq_some_iff.mp e
      refine ⟨O.filter (fun b => decide (b ≠ s)), O, _, o, rep_startB (b := true) (bs := [(true, s, xs)]) t ra (by simp) (fun x hx => ?_) (fun _ h => (List.mem_filter.mp h).1) (fun p0 h => ?_), eo, ?_⟩
      · cases List.mem_singleton.mp hx
        exact ⟨hs, fun _ z => (by simp at z), ws, hw, rx⟩
      · by_cases e : p0 = s
        · subst e; exact .inr hw.pl
        · exact .inl (List.mem_filter.mpr ⟨h, by simpa using e⟩)
      · cases o with
        | nx r =>
          refine fun O' σ' H' L R => ?_
          have e' : objAt 0 s true r = some z := e
          unfold objAt at e'
          split at e'
          · rename_i b k' a xs' hi
            split at e'
            · rename_i hh
              obtain ⟨rfl, rfl⟩ := hh
              cases e'
              obtain ⟨ws', h1, h2, h3, h4, h5⟩ := R.bx.obj 0 _ _ _ _ hi
              exact q ws' H' (fun b o' n h' => L.keep b o' (fun m => List.mem_filter.mpr ⟨m, by simpa using n⟩) h') h4 (h5.mn (hide_less L.sub))
            · cases e'
          · cases e'
        | rl zs => cases e
        | rt d => cases e
        | bk r => cases e
        | ct r => cases e
        | exc c => cases e
    · cases e
def AvMR (P : Program) (w : World) (K : PySem.W.Frag) (mg : Str → Option Value) (base : Heap) (m : Str) (ps : List Str) (k : Nat) (g : GM) : Prop :=
  ∃ (fa : Addr) (fd : FuncData), Meth K (StC K) m fa ∧ FnOk P w K mg base (L2.CX P w) k fa fd ps (spMR K mg g) ∧ Binds K fd ps []
def AvMO (P : Program) (w : World) (K : PySem.W.Frag) (mg : Str → Option Value) (base : Heap) (m : Str) (ps : List Str) (k : Nat) (g : Nat → List Dt → List Dt → Option (List Dt)) : Prop :=
  ∃ (fa : Addr) (fd : FuncData), Meth K (StC K) m fa ∧ FnOk P w K mg base (L2.CX P w) k fa fd ps (spMO K g) ∧ Binds K fd ps []
def AvMW (P : Program) (w : World) (K : PySem.W.Frag) (mg : Str → Option Value) (base : Heap) (m : Str) (ps : List Str) (k : Nat) (g : Nat → List Dt → List Dt → Option (List Dt)) : Prop :=
  ∃ (fa : Addr) (fd : FuncData), Meth K (StC K) m fa ∧ FnOk P w K mg base (L2.CX P w) k fa fd ps (spMW K g) ∧ Binds K fd ps []
end
end BL

set_option Elab.async false
set_option linter.all false
set_option maxRecDepth 100000
/-! Calls of methods. -/
namespace BL
open PySem PySem.Spec PyProof.Rows L2 LamX
def okD : Except String Dt → Option Dt
  | .ok d => some d
  | .error _ => none
@[simp] theorem okD_ok (d : Dt) : okD (.ok d) = some d := rfl
/-- s.m(..), s stays -/
@[simp] def eMeth (i : Nat) (g : GM) (t : FA) (r : Env) : Option Dt := match r[i]? with
  | some (some (.obj _ true a xs)) => (t r).bind fun ds => (g a xs ds).bind okD
  | _ => none
@[simp] def aMethO (i : Nat) (g : Nat → List Dt → List Dt → Option (List Dt)) (t : FA) (r : Env) : Option (List Dt) := match r[i]? with
  | some (some (.obj _ true a xs)) => (t r).bind fun ds => g a xs ds
  | _ => none
@[simp] def mMeth (i : Nat) (g : Nat → List Dt → List Dt → Option (List Dt)) (t : FA) (r : Env) : Option (Dt × Env) := match r[i]? with
  | some (some (.obj true true a xs)) => (t r).bind fun ds => (g a xs ds).bind fun ys => some (.none, r.set i (some (.obj true true a ys)))
  | _ => none
/-- an own list by a method -/
@[simp] def sOwnMeth (i j : Nat) (g : Nat → List Dt → List Dt → Option (List Dt)) (t : FA) (r : Env) : Option SOut := (aMethO j g t r).bind fun ys => some (.nx (r.set i (some (.own ys))))
theorem no_pass {X : Cx} : Passes (L2.CX X.prog X.w) X (fun _ _ _ => False) := fun _ _ _ _ _ _ _ h => by
  obtain ⟨_, _, _, _, _, _, _, _, _, _, _, _, z⟩ := h
  exact z.elim
theorem stN_no {m : Str} {ws : List V} (hm : stN.contains m = false) (h : ws.length = 3) : (stN.zip ws).lookup m = none := by
  obtain ⟨a, b, c, rfl⟩ := three h
  have h1 : ("size" : Str) ≠ m := fun z => by subst z; revert hm; decide
  have h2 : ("pose" : Str) ≠ m := fun z => by subst z; revert hm; decide
  have h3 : ("at" : Str) ≠ m := fun z => by subst z; revert hm; decide
  simp [stN, List.lookup, beq_false_of_ne h1.symm, beq_false_of_ne h2.symm, beq_false_of_ne h3.symm]
section
variable {X : Cx} {e : Expr} {es : List Expr} {t : FA} {k i : Nat} {ps : List Str} {g : GM} {go : Nat → List Dt → List Dt → Option (List Dt)} {x m : Str} {p apos pos : Pos} {E : XK} {pl : Sem Bool}
/-- what a call of a method leans on, of the state -/
theorem meth_at {σ : L2.St} {H : Hp} {K : PySem.W.Frag} {O0 O : List Addr} {r : Env} {b : Bool} {a : Addr} {xs : List Dt} (R : RepE K O0 O σ H r) (hi : r[i]? = some (some (.obj b true a xs))) (hm : stN.contains m = false) :
    ∃ dx ws, σ[i]? = some (some (.ref a)) ∧ H a = some (.ins (StC K) dx (stN.zip ws)) ∧ (stN.zip ws).lookup m = none ∧ a ∈ O ∧ HoIs K H a true ws ∧ RpAll K (hide O H) ws xs := by
  obtain ⟨ws, h1, h2, h3, ⟨h4, dx, h5⟩, h6⟩ := R.bx.obj i _ _ _ _ hi
  exact ⟨dx, ws, h1, h5, stN_no hm h4, h2, ⟨h4, dx, h5⟩, h6⟩
theorem HoIs.mn {K : PySem.W.Frag} {H H' : Hp} {a : Addr} {k : Bool} {ws : List V} (h : HoIs K H a k ws) (e : Same H H') : HoIs K H' a k ws := h.to fun o ho _ => e a o ho
theorem meth_R {σ : L2.St} {H : Hp} {Q : VK} (hm : stN.contains m = false) (q : tD X.K (eMeth i g t) σ H Q) : tMeth (StC X.K) m (spMR X.K X.mg g) [] (fun _ _ _ => False) (tVar i) (tDA X.K t) σ H Q := by
  obtain ⟨O0, O, r, d, R, ee, q⟩ := q
  unfold eMeth at ee
  split at ee
  · rename_i b a xs hi
    obtain ⟨ds, ed, ee⟩ := Option.bind_eq_some_iff.mp ee
    obtain ⟨z, ez, ee⟩ := Option.bind_eq_some_iff.mp ee
    obtain ⟨dx, ws, h1, h2, h3, h4, h5, h6⟩ := meth_at R hi hm
    refine ⟨_, h1, a, dx, _, rfl, h2, h3, O0, O, r, ds, R, ed, fun vs H1 s1 ra => ?_⟩
    simp only [List.append_nil]
    refine ⟨a, ws, vs, O, xs, ds, z, rfl, h4, h5.mn s1, R.trk.mn s1, h6.mn (hide_same s1), ra, ez, fun d' hd v H' s2 rv => ?_, fun c hc => ?_⟩
    · subst hd
      cases ee
      exact q v H' (s1.trans s2) rv
    · subst hc
      cases ee
  · cases ee
theorem dMeth (SK : StK X.K) (A : AvMR X.prog X.w X.K X.mg X.base m ps k g) (hr : Room k X.A) (hx : PE X (.Name x p) (tVar i)) (hm : stN.contains m = false) (ha : PA X (e :: es) (tDA X.K t))
    (hst : starEach (e :: es) X.env = (false, eval e X.env) :: starEach es X.env := by rfl) (hpl : (backTo pos (starEach es X.env)).any (·.1) = false := by rfl)
    (ht : eval (.Call (.Attribute (.Name x p) m apos) (e :: es) [] pos) X.env = (do
      let ov ← eval (.Name x p) X.env
      standAt apos.atName
      let (f, first) ← holding [ov] (getMethod ov m pl)
      callWith pos f first (backTo pos (starEach (e :: es) X.env)) (backToKw pos (keywordEach [] X.env))) := by rfl) :
    PE X (.Call (.Attribute (.Name x p) m apos) (e :: es) [] pos) (tD X.K (eMeth i g t)) := by
  obtain ⟨fa, fd, M, F, b⟩ := A
  exact (pe_meth (pl := pl) hx SK.cls M F hr b .nil no_pass ha hst hpl ht).imp fun σ H Q q => meth_R hm q
theorem dMeth0 (SK : StK X.K) (A : AvMR X.prog X.w X.K X.mg X.base m ps k g) (hr : Room k X.A) (hx : PE X (.Name x p) (tVar i)) (hm : stN.contains m = false)
    (ht : eval (.Call (.Attribute (.Name x p) m apos) [] [] pos) X.env = (do
      let ov ← eval (.Name x p) X.env
      standAt apos.atName
      let (f, first) ← holding [ov] (getMethod ov m pl)
      callWith pos f first (backTo pos (starEach [] X.env)) (backToKw pos (keywordEach [] X.env))) := by rfl) :
    PE X (.Call (.Attribute (.Name x p) m apos) [] [] pos) (tD X.K (eMeth i g aNil)) := by
  obtain ⟨fa, fd, M, F, b⟩ := A
  refine (pe_meth0 (pl := pl) hx SK.cls M F hr b .nil no_pass ht).imp fun σ H Q q => ?_
  obtain ⟨O0, O, r, d, R, ee, q⟩ := q
  unfold eMeth at ee
  split at ee
  · rename_i b a xs hi
    obtain ⟨ds, ed, ee⟩ := Option.bind_eq_some_iff.mp ee
    cases ed
    obtain ⟨z, ez, ee⟩ := Option.bind_eq_some_iff.mp ee
    obtain ⟨dx, ws, h1, h2, h3, h4, h5, h6⟩ := meth_at R hi hm
    refine ⟨_, h1, a, dx, _, rfl, h2, h3, ?_⟩
    refine ⟨a, ws, [], O, xs, [], z, rfl, h4, h5, R.trk, h6, .nil, ez, fun d' hd v H' s2 rv => ?_, fun c hc => ?_⟩
    · subst hd
      cases ee
      exact q v H' s2 rv
    · subst hc
      cases ee
  · cases ee
theorem dMethO (SK : StK X.K) (A : AvMO X.prog X.w X.K X.mg X.base m ps k go) (hr : Room k X.A) (hx : PE X (.Name x p) (tVar i)) (hm : stN.contains m = false) (ha : PA X (e :: es) (tDA X.K t))
    (hst : starEach (e :: es) X.env = (false, eval e X.env) :: starEach es X.env := by rfl) (hpl : (backTo pos (starEach es X.env)).any (·.1) = false := by rfl)
    (ht : eval (.Call (.Attribute (.Name x p) m apos) (e :: es) [] pos) X.env = (do
      let ov ← eval (.Name x p) X.env
      standAt apos.atName
      let (f, first) ← holding [ov] (getMethod ov m pl)
      callWith pos f first (backTo pos (starEach (e :: es) X.env)) (backToKw pos (keywordEach [] X.env))) := by rfl) :
    PE X (.Call (.Attribute (.Name x p) m apos) (e :: es) [] pos) (tF X.K (aMethO i go t)) := by
  obtain ⟨fa, fd, M, F, b⟩ := A
  refine (pe_meth (pl := pl) (E := fun _ _ _ => False) hx SK.cls M F hr b .nil no_pass ha hst hpl ht).imp fun σ H Q ⟨O0, O, r, zs, R, ee, q⟩ => ?_
  unfold aMethO at ee
  split at ee
  · rename_i b a xs hi
    obtain ⟨ds, ed, ee⟩ := Option.bind_eq_some_iff.mp ee
    obtain ⟨dx, ws, h1, h2, h3, h4, h5, h6⟩ := meth_at R hi hm
    refine ⟨_, h1, a, dx, _, rfl, h2, h3, O0, O, r, ds, R, ed, fun vs H1 s1 ra => ?_⟩
    simp only [List.append_nil]
    refine ⟨a, ws, vs, O, xs, ds, zs, rfl, h4, h5.mn s1, R.trk.mn s1, h6.mn (hide_same s1), ra, ee, fun q0 ws' H' s2 hq hw rw' => q q0 ws' H' (s1.trans s2) ?_ hw rw'⟩
    cases z : H q0 with
    | none => rfl
    | some o => rw [s1 q0 o z] at hq; cases hq
  · cases ee
theorem zOwnMeth {j : Nat} {y : Str} {pos' : Pos} (h : PS X (.Assign [.Name y pos'] e pos) (tAsg (tF X.K (aMethO j go t)) (gName i))) : PS X (.Assign [.Name y pos'] e pos) (tsD X.K (sOwnMeth i j go t)) := h.imp fun D σ H ⟨O0, O, r, o, R, ee, q⟩ => by
  unfold sOwnMeth at ee
  obtain ⟨zs, ez, ee⟩ := Option.bind_eq_some_iff.mp ee
  cases ee
  exact ⟨O0, O, r, zs, R, ez, fun q0 ws H1 s1 hq hw ra => q _ _ _ (later_new hq s1) (R.newOwn hq s1 hw ra)⟩
theorem nb_ownMeth {bad : SOut → Bool} [B : Bd bad] {i j : Nat} : NoB bad (sOwnMeth i j go t) := fun r o e => by
  obtain ⟨x, _, e⟩ := Option.bind_eq_some_iff.mp e
  cases e; exact B.nx _
/-- s.m(..), s is changed -/
theorem dMethW (SK : StK X.K) (A : AvMW X.prog X.w X.K X.mg X.base m ps k go) (hr : Room k X.A) (hx : PE X (.Name x p) (tVar i)) (hm : stN.contains m = false) (ha : PA X (e :: es) (tDA X.K t))
    (hst : starEach (e :: es) X.env = (false, eval e X.env) :: starEach es X.env := by rfl) (hpl : (backTo pos (starEach es X.env)).any (·.1) = false := by rfl)
    (ht : eval (.Call (.Attribute (.Name x p) m apos) (e :: es) [] pos) X.env = (do
      let ov ← eval (.Name x p) X.env
      standAt apos.atName
      let (f, first) ← holding [ov] (getMethod ov m pl)
      callWith pos f first (backTo pos (starEach (e :: es) X.env)) (backToKw pos (keywordEach [] X.env))) := by rfl) :
    PE X (.Call (.Attribute (.Name x p) m apos) (e :: es) [] pos) (tM X.K (mMeth i go t)) := by
  obtain ⟨fa, fd, M, F, b⟩ := A
  refine (pe_meth (pl := pl) (E := fun _ _ _ => False) hx SK.cls M F hr b .nil no_pass ha hst hpl ht).imp fun σ H Q ⟨O0, O, r, d, r', R, ee, q⟩ => ?_
  unfold mMeth at ee
  split at ee
  · rename_i a xs hi
    obtain ⟨ds, ed, ee⟩ := Option.bind_eq_some_iff.mp ee
    obtain ⟨ys, ey, ee⟩ := Option.bind_eq_some_iff.mp ee
    cases ee
    obtain ⟨dx, ws, h1, h2, h3, h4, h5, h6⟩ := meth_at R hi hm
    have hn := (R.bx.obj i _ _ _ _ hi).choose_spec.2.2.1 rfl
    refine ⟨_, h1, a, dx, _, rfl, h2, h3, O0, O, r, ds, R, ed, fun vs H1 s1 ra => ?_⟩
    simp only [List.append_nil]
    have R1 := R.mn s1
    have h21 := s1 _ _ h2
    refine ⟨a, ws, vs, O, xs, ds, ys, rfl, h4, h5.mn s1, R1.trk, h6.mn (hide_same s1), ra, ey, fun ws' H' hk hw' rz => ?_⟩
    obtain ⟨_, dx', hw2⟩ := id hw'
    have hh : Same H1 (upd H' a (.ins (StC X.K) dx (stN.zip ws))) := fun b o hb => by
      by_cases e : b = a
      · subst e
        rw [h21] at hb
        rw [upd_same]
        exact hb
      · rw [upd_ne e]
        exact hk b o e hb
    have e2 : upd (upd H' a (.ins (StC X.K) dx (stN.zip ws))) a (.ins (StC X.K) dx' (stN.zip ws')) = H' := by
      funext b
      by_cases e : b = a
      · subst e; rw [upd_same, hw2]
      · rw [upd_ne e, upd_ne e]
    have R2 := R1.mn hh
    have e3 : hide O H' = hide O (upd H' a (.ins (StC X.K) dx (stN.zip ws))) := (hide_upd h4).symm
    rw [e3] at rz
    have U := R2.upBox (u := .ins (StC X.K) dx' (stN.zip ws')) hi (by rw [e2]; exact hw') rz
    have L := ((Later.same (O0 := O0) (O := O) s1).trans (Later.same hh)).trans (later_upd (o := .ins (StC X.K) dx' (stN.zip ws')) h4 hn ⟨_, upd_same⟩)
    rw [e2] at U L
    exact q .non O H' L U .non
  · cases ee
/-! in a lambda: what may raise -/
@[simp] def aObj (i : Nat) (t : FA) (r : Env) : Option (List Dt) := match r[i]? with
  | some (some (.obj _ true a xs)) => (t r).bind fun ds => if xs.length = 3 then some (.int a :: (xs ++ ds)) else none
  | _ => none
/-- a method on object and arguments in a row -/
def gRow (g : GM) : FX := fun all => match all with
  | .int a :: x :: y :: z :: ds => g a.toNat [x, y, z] ds
  | _ => none
theorem eMethX (SK : StK X.K) (A : AvMR X.prog X.w X.K X.mg X.base m ps k g) (hr : Room k X.A) (hx : PE X (.Name x p) (tVar i)) (hm : stN.contains m = false) (tk : Takes X (fun cls d _ H => E cls d H)) (ha : PA X (e :: es) (tDA X.K t))
    (hst : starEach (e :: es) X.env = (false, eval e X.env) :: starEach es X.env := by rfl) (hpl : (backTo pos (starEach es X.env)).any (·.1) = false := by rfl)
    (ht : eval (.Call (.Attribute (.Name x p) m apos) (e :: es) [] pos) X.env = (do
      let ov ← eval (.Name x p) X.env
      standAt apos.atName
      let (f, first) ← holding [ov] (getMethod ov m pl)
      callWith pos f first (backTo pos (starEach (e :: es) X.env)) (backToKw pos (keywordEach [] X.env))) := by rfl) :
    PE X (.Call (.Attribute (.Name x p) m apos) (e :: es) [] pos) (tCXn X.K X.mg (gRow g) (aObj i t) E) := by
  obtain ⟨fa, fd, M, F, b⟩ := A
  refine (pe_meth (pl := pl) (E := E) hx SK.cls M F hr b .nil (passes_call tk fun _ _ _ _ h => h) ha hst hpl ht).imp fun σ H Q ⟨O0, O, r, all, z, R, ea, ez, q1, q2⟩ => ?_
  unfold aObj at ea
  split at ea
  · rename_i b a xs hi
    obtain ⟨ds, ed, ea⟩ := Option.bind_eq_some_iff.mp ea
    split at ea
    · rename_i h3
      cases ea
      obtain ⟨x1, x2, x3, rfl⟩ := three h3
      have ez' : g a [x1, x2, x3] ds = some z := by
        have : gRow g (.int a :: ([x1, x2, x3] ++ ds)) = g a [x1, x2, x3] ds := rfl
        rw [← this]; exact ez
      obtain ⟨dx, ws, h1, h2, h3, h4, h5, h6⟩ := meth_at R hi hm
      refine ⟨_, h1, a, dx, _, rfl, h2, h3, O0, O, r, ds, R, ed, fun vs H1 s1 ra => ?_⟩
      simp only [List.append_nil]
      exact ⟨a, ws, vs, O, _, ds, z, rfl, h4, h5.mn s1, R.trk.mn s1, h6.mn (hide_same s1), ra, ez', fun d' hd v H' s2 rv => q1 d' hd v H' (s1.trans s2), fun c hc V H' hV s2 => q2 c hc V H' hV (s1.trans s2)⟩
    · cases ea
  · cases ea
/-- a def that may raise, where it does not -/
def okOf (g : FX) : List Dt → Option Dt := fun ds => (g ds).bind okD
theorem eCallOk {a : Expr} {gg : FX} {x : Str} (A : AvX X.prog X.w X.K X.mg X.base x ps k gg) (hr : Room k X.A) (hg : Gl X x)
    (ha : PA X (a :: es) (tDA X.K t)) (hdb : (x == ("__debug__" : Str)) = false := by decide) (he : starEach (a :: es) X.env = (false, eval a X.env) :: starEach es X.env := by rfl)
    (hpl : (backTo pos (starEach es X.env)).any (·.1) = false := by rfl) : PE X (.Call (.Name x p) (a :: es) [] pos) (tD X.K (eCall (okOf gg) t)) := by
  obtain ⟨fa, fd, F, gl, kp, bd⟩ := A
  refine (pe_callS (E := fun _ _ _ _ => False) F hr hg gl kp bd (fun σ pins H s e s' I h => no_pass pins σ H s e s' I h) ha hdb he hpl).imp fun σ H Q ⟨O0, O, r, d, R, ee, q⟩ => ?_
  unfold eCall okOf at ee
  obtain ⟨ds, ed, ee⟩ := Option.bind_eq_some_iff.mp ee
  obtain ⟨z, ez, ee⟩ := Option.bind_eq_some_iff.mp ee
  refine ⟨O0, O, r, ds, R, ed, fun vs H1 s1 ra => ⟨O, ds, z, R.trk.mn s1, ra, ez, fun d' hd v H' s2 rv => ?_, fun c hc => ?_⟩⟩
  · subst hd
    cases ee
    exact q v H' (s1.trans s2) rv
  · subst hc
    cases ee
end
end BL

set_option Elab.async false
set_option linter.all false
set_option maxRecDepth 100000
/-! {(0, 1): 'a', ..}[k] -/
namespace BL
open PySem PySem.Spec PyProof.Rows L2 LamX
abbrev Way := (Int × Int) × Str
def wayK (w : Way) : List Key := [.inl w.1.1, .inl w.1.2]
@[simp] def eWay (tab : List Way) (f : FE) (r : Env) : Option Dt := (f r).bind fun d => match d with
  | .tuple [.int a, .int b] => (tab.lookup (a, b)).map .str
  | _ => none
def kvsOf (tab : List Way) : List (List Key × V) := tab.map fun w => (wayK w, .str w.2)
theorem wayK_inj {a b : Int × Int} {s t : Str} : wayK (a, s) = wayK (b, t) → a = b := fun h => by
  obtain ⟨a1, a2⟩ := a
  obtain ⟨b1, b2⟩ := b
  unfold wayK at h
  injection h with h1 h2
  injection h2 with h2 _
  injection h1 with h1
  injection h2 with h2
  simp only at h1 h2
  rw [h1, h2]
theorem val_kvs {tab : List Way} {a b : Int} {s : Str} (h : tab.lookup (a, b) = some s) : valV (kvsOf tab) [.inl a, .inl b] = some (.str s) := by
  induction tab with
  | nil => cases h
  | cons w tab ih =>
    obtain ⟨k, t⟩ := w
    rw [List.lookup_cons] at h
    by_cases e : (a, b) = k
    · subst e
      rw [beq_self_eq_true] at h
      cases h
      exact valV_pos rfl
    · have hb : ((a, b) == k) = false := by simpa using e
      rw [hb] at h
      rw [← ih h]
      exact valV_neg fun z => e (wayK_inj (s := s) (t := t) z.symm)
/-- what a tuple of ints stands for -/
theorem key_sq {X : Cx} {pins : List (Addr × Obj)} {σ : L2.St} {H : Hp} {s : Shared} {b : Addr} {ks : List Key} (I : Inv X pins σ H s) (h : SqT X.K H b (ks.map kV)) : (tupleKind (mixKind X.prog X.w)).is s.heap ks b := by
  obtain ⟨its, r, ⟨o, h1, h2, n, h3⟩, _⟩ := I.tuple h
  exact ⟨o, its.toArray, n, h1, h2, h3, by simpa using items_are r⟩
/-- d[k], the key a tuple of any kind -/
def tDGetS (K : PySem.W.Frag) (td ty : TE) : TE := fun σ H Q => td σ H fun x H1 => ty σ H1 fun y H2 => ∃ a b kvs ks v, x = .ref a ∧ y = .ref b ∧ Rd H2 a (.dT kvs) ∧ SqT K H2 b (ks.map kV) ∧ valV kvs ks = some v ∧ Q v H2
section
variable {X : Cx} {o i : Expr} {pos : Pos} {td ty : TE}
theorem pe_dgetS (hu : X.A.units + 1 < cLine) (ho : PE X o td) (hi : PE X i ty) (hs : NoSl i) : PE X (.Subscript o i pos) (tDGetS X.K td ty) := by
  refine ⟨fun pins s σ H Q I h => ?_⟩
  refine subD_of PySem.F.slot_dict_getitem.lookup hs (thn (ho.run pins s σ H _ I h) fun u s1 ⟨x, H1, I1, rx, q1⟩ => thn (hi.run pins s1 σ H1 _ I1 q1) fun iv s2 ⟨y, H2, I2, ry, a, b, kvs, ks, v, ex, ey, g, gk, l, q2⟩ => ?_)
  subst ex ey
  obtain rfl : u = Value.ref a := rx
  obtain rfl : iv = Value.ref b := ry
  obtain ⟨z, hd, xs, rel, dd⟩ := dt_rd I2.hok g
  obtain ⟨w', hw, rw'⟩ := RelO.some_of (v := v) (o := (atKey xs ks).map (·.2)) (by rw [← l]; exact rel.val ks)
  obtain ⟨p, hp, hp2⟩ := Option.map_eq_some_iff.mp hw
  refine ⟨dd.typeIs, wpAny_getItem_heap (tupleKind_room_in1 hu) (key_sq I2 gk) dd hp ?_⟩
  rw [hp2]
  exact ⟨v, H2, I2.tok _, rw', q2⟩
end
/-! ### the display -/
def mergeT (kvs more : List (List Key × V)) : List (List Key × V) := more.foldl (fun acc kv => putK acc kv.1 kv.2) kvs
def KRefs (H : Hp) : List (V × V) → List (List Key × V) → Prop := Paired fun p q => (∃ b, p.1 = .ref b ∧ H b = some (.tup (q.1.map kV))) ∧ p.2 = q.2
def tDispT (trs : List (TE × TE)) : TE := fun σ H Q => ∀ p, H p = none → tPairs trs σ (upd H p (.dT [])) fun ps H2 => H2 p = some (.dT []) ∧ ∃ kvs : List (List Key × V), KRefs H2 ps kvs ∧ kvs.length ≤ 15 ∧ Q (.ref p) (upd H2 p (.dT (mergeT [] kvs)))
theorem length_mergeT : ∀ (more kvs : List (List Key × V)), (mergeT kvs more).length ≤ kvs.length + more.length
  | [], kvs => by show kvs.length ≤ kvs.length + 0; omega
  | p :: r, kvs => by
    have h1 := length_mergeT r (putK kvs p.1 p.2)
    have h2 := length_putK kvs p.1 p.2
    show (mergeT (putK kvs p.1 p.2) r).length ≤ _
    rw [List.length_cons]; omega
theorem carries_ofT {P : Program} {w : World} {H : Hp} {h : Heap} (ok : HOk P w H h) : ∀ {ps : List (V × V)} {kvs : List (List Key × V)} {ws : List (Value × Value)}, KRefs H ps kvs → VV ps ws →
    ∃ rs : List (List Key × Addr × Value), CarriesH (tupleKind (mixKind P w)) h ws rs ∧ KT H kvs rs
  | [], _, _, k, r => by cases k; cases r; exact ⟨[], True.intro, .nil⟩
  | p :: ps, _, _, k, r => by
    cases k with
    | cons hk tk =>
      cases r with
      | @cons a b as bs hr tr =>
        obtain ⟨rs, c, q⟩ := carries_ofT ok tk tr
        obtain ⟨⟨ba, e1, e2⟩, e3⟩ := hk
        obtain ⟨b1, b2⟩ := b
        obtain ⟨r1, r2⟩ := hr
        rw [e1] at r1
        have e4 : b1 = Value.ref ba := r1
        subst e4
        rw [e3] at r2
        exact ⟨(_, ba, b2) :: rs, ⟨rfl, rfl, key_of ok e2, c⟩, .cons ⟨rfl, e2, r2⟩ q⟩
theorem kt_merge {H : Hp} : ∀ {more : List (List Key × V)} {rs : List (List Key × Addr × Value)} {kvs : List (List Key × V)} {xs : List (List Key × Addr × Value)}, KT H more rs → KT H kvs xs → KT H (mergeT kvs more) (storedAllH xs rs) := by
  intro more rs kvs xs r
  induction r generalizing kvs xs with
  | nil => intro q; exact q
  | @cons p q ps qs h t ih =>
    intro r0
    obtain ⟨h1, h2, h3⟩ := h
    refine ih ?_
    show KT H (putK kvs p.1 p.2) (storedH xs q.1 q.2.1 q.2.2)
    rw [← h1]
    exact L2.KT.put r0 p.1 h2 h3
theorem pe_dispT {X : Cx} {pos : Pos} {keys : List (Option Expr)} {values : List Expr} {trs : List (TE × TE)} (hu : X.A.units < cLine) (h : PPs X pos keys values trs) (hall : keys.all (·.isSome) = true) (hl : keys.length = values.length) (h0 : keys ≠ [])
    (h15 : keys.length ≤ 15) : PE X (.Dict keys values pos) (tDispT trs) := by
  refine ⟨fun pins s σ H Q I q => ?_⟩
  have hn := I.hok.fresh (Nat.le_refl s.heap.objs.size)
  have I1 := I.laid (a := s.heap.objs.size) (o := .dT []) (h' := s.heap.push { cls := .type "dict", data := .dict #[] }) (t' := s.toks) (fun _ _ q => Heap.get?_push_of_some _ q) (Nat.le_refl _) (dt_empty s.heap I.big)
  have hne : pairTrees keys values X.env pos ≠ [] := fun he => by
    have := pairTrees_length keys values X.env pos hall hl
    rw [he] at this
    exact h0 (List.length_eq_zero_iff.mp this.symm)
  have hlen := pairTrees_length keys values X.env pos hall hl
  rw [arm_eval_Dict, zip_pairTrees keys values X.env pos hall hl, dictDisplay_pairs _ hne (by omega)]
  refine wpAny_bind (wpAny_standAt (wpAny_bind (wpAny_subDictH (knd := tupleKind (mixKind X.prog X.w)) (Q := fun d s' => wpAny (model X.prog X.w) X.A (pure (Value.ref d)) (EP X pins σ Q) X.xe s') hu (by omega) (thn (h.run pins _ σ _ _ I1 (q _ hn)) fun ws s2 ⟨ps, H2, I2, rel, e, kvs, kr, lk, q2⟩ => ?_))))
  obtain ⟨rs, c, rk⟩ := carries_ofT I2.hok kr rel
  obtain ⟨z, hd, xs0, r0, dd⟩ := dt_of I2.hok e
  cases r0
  refine ⟨rs, c, dd, fun h' tk dd' hs => wpAny_pure ⟨.ref s.heap.objs.size, _, ?_, rfl, q2⟩⟩
  have hz : (mergeT [] kvs).length ≤ sizeLine := by
    have h1 := length_mergeT kvs []
    rw [List.length_nil] at h1
    rw [sizeLine_eq]; omega
  obtain ⟨q', es, ep, hq, h2, h3, h4, _, h5⟩ := dd'
  refine d_write I2 (by rw [e]; exact True.intro) hs ⟨q', hq⟩ ⟨hz, hd, _, (L2.KT.keeps (kt_merge rk .nil) fun c' ys ec => ?_), q', es, ep, hq, h2, h3, h4, h5⟩
  rw [upd_ne (ne_of ec e (fun z => nomatch z))]
  exact ec
/-- a tuple of two written ints, as a key -/
def tK2 (k : Int × Int) : TE := fun _ H Q => ∀ b, H b = none → Q (.ref b) (upd H b (.tup [.int k.1, .int k.2]))
def tWays (tab : List Way) : List (TE × TE) := tab.map fun w => (tK2 w.1, tC (.str w.2))
theorem ways_pairs {σ : L2.St} : ∀ {tab : List Way} {H : Hp} {Q : List (V × V) → Hp → Prop}, (∀ ps H2, Same H H2 → KRefs H2 ps (kvsOf tab) → Q ps H2) → tPairs (tWays tab) σ H Q
  | [], H, Q, h => h [] H (Same.refl H) .nil
  | w :: tab, H, Q, h => fun b hb => ways_pairs (tab := tab) fun ps H2 s k => h _ H2 ((same_new hb).trans s) (.cons ⟨⟨b, rfl, s _ _ upd_same⟩, rfl⟩ k)
theorem merge_new : ∀ {more acc : List (List Key × V)}, (∀ k ∈ more.map (·.1), valV acc k = none) → (more.map (·.1)).Nodup → mergeT acc more = acc ++ more
  | [], acc, _, _ => by rw [List.append_nil]; rfl
  | p :: r, acc, h, nd => by
    rw [List.map_cons, List.nodup_cons] at nd
    show mergeT (putK acc p.1 p.2) r = _
    rw [putK_new p.2 (h p.1 (by simp)), merge_new (fun k hk => ?_) nd.2]
    · simp
    · rw [valV_snoc p.1 k p.2 acc (h p.1 (by simp)), if_neg (fun e : k = p.1 => nd.1 (by rw [← e]; exact hk))]
      exact h k (by simp [hk])
section
variable {X : Cx} {i : Expr} {f : FE} {pos dpos : Pos} {keys : List (Option Expr)} {values : List Expr} {tab : List Way}
theorem dWay (hu : X.A.units + 1 < cLine) (h : PPs X dpos keys values (tWays tab)) (hi : PE X i (tD X.K f)) (hall : keys.all (·.isSome) = true) (hl : keys.length = values.length) (h0 : keys ≠ []) (h15 : keys.length ≤ 15) (ht : tab.length ≤ 15) (nd : ((kvsOf tab).map (·.1)).Nodup) (hs : NoSl i) :
    PE X (.Subscript (.Dict keys values dpos) i pos) (tD X.K (eWay tab f)) :=
  (pe_dgetS hu (pe_dispT (by omega) h hall hl h0 h15) hi hs).imp fun σ H Q ⟨O0, O, r, d, R, e, q⟩ => by
    unfold eWay at e
    obtain ⟨y, ey, e⟩ := Option.bind_eq_some_iff.mp e
    split at e
    · rename_i a b
      obtain ⟨s, hs', e⟩ := Option.map_eq_some_iff.mp e
      subst e
      intro p hp
      refine ways_pairs fun ps H2 s2 k2 => ⟨s2 _ _ upd_same, _, k2, by unfold kvsOf; rw [List.length_map]; exact ht, ?_⟩
      have hp2 : H2 p = some (.dT []) := s2 _ _ upd_same
      have sm : Same H (upd H2 p (.dT (mergeT [] (kvsOf tab)))) := fun b' o hb => by
        have n : b' ≠ p := fun z => by rw [z, hp] at hb; cases hb
        rw [upd_ne n]
        exact s2 b' o (by rw [upd_ne n]; exact hb)
      refine ⟨O0, O, r, _, R.mn sm, ey, fun v H3 s3 rv => ?_⟩
      cases rv with
      | tup hq ha =>
        cases ha with
        | cons h1 ha =>
          cases ha with
          | cons h2 ha =>
            cases ha
            cases h1
            cases h2
            have hm : mergeT [] (kvsOf tab) = kvsOf tab := by
              rw [merge_new (fun k _ => rfl) nd]; rfl
            refine ⟨p, _, kvsOf tab, [.inl a, .inl b], .str s, rfl, rfl, .inl (by rw [← hm]; exact s3 _ _ upd_same), same_t hide_sub hq, val_kvs hs', q _ H3 (sm.trans s3) (.str s)⟩
    · cases e
end
end BL

set_option Elab.async false
set_option linter.all false
set_option maxRecDepth 100000
/-! A dict of the module with keys of two ints; the head that sees its keys. -/
namespace BL
open PySem PySem.Spec PyProof.Rows L2 LamX
def wayH (w : Way) : Int := reduceHash (Builtin.Tuple.tupleHashOf [hashInt w.1.1, hashInt w.1.2])
theorem wayH_eq (P : Program) (wd : World) (w : Way) : (tupleKind (mixKind P wd)).hash (wayK w) = wayH w := rfl
/-- the module's dict, whatever stands around it -/
def WaysG (K : PySem.W.Frag) (P : Program) (w : World) (a : Addr) (tab : List Way) : Prop := ∀ h : Heap, K.In h → ∃ xs : List (List Key × Addr × Value), h.DictOfH (tupleKind (mixKind P w)) a xs ∧ Paired (fun (p : List Key × V) (q : List Key × Addr × Value) => p.1 = q.1 ∧ RelV p.2 q.2.2) (kvsOf tab) xs
def entB (K : PySem.W.Frag) : List DictEntry → List Way → Bool
  | [], [] => true
  | e :: es, w :: tab => decide (e.hash = wayH w) && ((match e.key with
    | .ref t => (match K.lookup t with
      | some ⟨.type c, _, .seq its _, _⟩ => decide (c = "tuple") && He.relAll [.int w.1.1, .int w.1.2] its.toList
      | _ => false)
    | _ => false) && (He.relB (.str w.2) e.val && entB K es tab))
  | _, _ => false
def waysB (K : PySem.W.Frag) (a : Addr) (tab : List Way) : Bool := match K.lookup a with
  | some ⟨.type c, none, .dict es _, sl⟩ => decide (c = "dict") && (sl.isEmpty && (entB K es.toList tab && decide ((kvsOf tab).map (·.1)).Nodup))
  | _ => false
theorem entB_ok {K : PySem.W.Frag} {P : Program} {w : World} {h : Heap} (X : K.In h) : ∀ {es : List DictEntry} {tab : List Way}, entB K es tab = true →
    ∃ xs : List (List Key × Addr × Value), es = xs.map (entryOfKey (tupleKind (mixKind P w))) ∧ (∀ x ∈ xs, (tupleKind (mixKind P w)).is h x.1 x.2.1) ∧ Paired (fun (p : List Key × V) (q : List Key × Addr × Value) => p.1 = q.1 ∧ RelV p.2 q.2.2) (kvsOf tab) xs
  | [], [], _ => ⟨[], rfl, fun x h => (by cases h), .nil⟩
  | [], _ :: _, h => by cases h
  | _ :: _, [], h => by cases h
  | e :: es, wy :: tab, hb => by
    unfold entB at hb
    obtain ⟨b1, hb⟩ := He.ba hb
    obtain ⟨b2, hb⟩ := He.ba hb
    obtain ⟨b3, b4⟩ := He.ba hb
    obtain ⟨xs, e1, e2, e3⟩ := entB_ok (P := P) (w := w) X b4
    obtain ⟨eh, ek, ev⟩ := e
    cases ek with
    | ref t =>
      dsimp only at b1 b2 b3
      split at b2
      · rename_i c d its n sl hk
        obtain ⟨c1, c2⟩ := He.ba b2
        have hc := of_decide_eq_true c1
        subst hc
        refine ⟨(wayK wy, t, ev) :: xs, ?_, fun x hx => ?_, .cons ⟨rfl, He.relB_ok b3⟩ e3⟩
        · rw [List.map_cons, ← e1]
          unfold entryOfKey
          rw [wayH_eq, ← of_decide_eq_true b1]
        · rcases List.mem_cons.mp hx with rfl | hx
          · exact ⟨_, its, n, X t _ hk, rfl, rfl, items_are (ks := wayK wy) (He.relAll_ok c2)⟩
          · exact e2 x hx
      · cases b2
    | _ => cases b2
theorem paired_keys {p : List (List Key × V)} {q : List (List Key × Addr × Value)} (h : Paired (fun (p : List Key × V) (q : List Key × Addr × Value) => p.1 = q.1 ∧ RelV p.2 q.2.2) p q) : p.map (·.1) = q.map (·.1) := by
  induction h with
  | nil => rfl
  | cons h t ih => rw [List.map_cons, List.map_cons, h.1, ih]
theorem waysB_ok {K : PySem.W.Frag} {a : Addr} {tab : List Way} (hb : waysB K a tab = true) (P : Program) (w : World) : WaysG K P w a tab := fun h X => by
  unfold waysB at hb
  split at hb
  · rename_i c es ep sl hk
    obtain ⟨b1, hb⟩ := He.ba hb
    obtain ⟨b2, hb⟩ := He.ba hb
    obtain ⟨b3, b4⟩ := He.ba hb
    have hc := of_decide_eq_true b1
    subst hc
    obtain ⟨xs, e1, e2, e3⟩ := entB_ok (P := P) (w := w) X b3
    refine ⟨xs, ⟨_, es, ep, X a _ hk, ⟨rfl, rfl, ?_⟩, rfl, e1, e2, ?_⟩, e3⟩
    · exact Array.isEmpty_iff.mp b2
    · rw [← paired_keys e3]
      exact of_decide_eq_true b4
  · cases hb
theorem val_paired {k : List Key} {v : V} {p : List (List Key × V)} {xs : List (List Key × Addr × Value)} (h : Paired (fun (p : List Key × V) (q : List Key × Addr × Value) => p.1 = q.1 ∧ RelV p.2 q.2.2) p xs) (hv : valV p k = some v) : ∃ q, atKey xs k = some q ∧ RelV v q.2 := by
  induction h with
  | nil => cases hv
  | @cons p q ps qs h t ih =>
    by_cases e : p.1 = k
    · rw [valV_pos e] at hv
      cases hv
      exact ⟨q.2, by simp [atKey, List.find?_cons, h.1.symm.trans e], h.2⟩
    · rw [valV_neg e] at hv
      obtain ⟨q', h1, h2⟩ := ih hv
      have e' : ¬ q.1 = k := fun z => e (h.1.trans z)
      exact ⟨q', by rw [← h1]; simp [atKey, List.find?_cons, e'], h2⟩
section
variable {X : Cx} {i : Expr} {f : FE} {pos p : Pos} {tab : List Way} {a : Addr} {x : Str}
theorem dWayG (hu : X.A.units + 1 < cLine) (hg : Gl X x) (hm : X.mg x = some (.ref a)) (W : WaysG X.K X.prog X.w a tab) (hi : PE X i (tD X.K f)) (hs : NoSl i) (hd : (x == ("__debug__" : Str)) = false := by decide) :
    PE X (.Subscript (.Name x p) i pos) (tD X.K (eWay tab f)) := by
  refine ⟨fun pins s σ H Q I ⟨O0, O, r, d, R, e, q⟩ => ?_⟩
  unfold eWay at e
  obtain ⟨y, ey, e⟩ := Option.bind_eq_some_iff.mp e
  split at e
  · rename_i a1 b1
    obtain ⟨z, hz, e⟩ := Option.map_eq_some_iff.mp e
    subst e
    refine subD_of PySem.F.slot_dict_getitem.lookup hs (thn ((pe_glob (v := .ref a) hg hm rfl hd).run pins s σ H (fun v H1 => v = .ref a ∧ H1 = H) I ⟨rfl, rfl⟩) fun u s1 ⟨x1, H1, I1, rx, q1, q2⟩ => ?_)
    subst q1 q2
    obtain rfl : u = Value.ref a := rx
    refine thn (hi.run pins s1 σ H1 (fun v H2 => Same H1 H2 ∧ Rp X.K (hide O H2) v (.tuple [.int a1, .int b1])) I1 ⟨O0, O, r, _, R, ey, fun v H' s rv => ⟨s, rv⟩⟩) fun iv s2 ⟨y2, H2, I2, ry, s12, rv⟩ => ?_
    cases rv with
    | tup hq ha =>
      cases ha with
      | cons h1 ha =>
        cases ha with
        | cons h2 ha =>
          cases ha
          cases h1
          cases h2
          rename_i b
          obtain rfl : iv = Value.ref b := ry
          obtain ⟨xs, dd, pr⟩ := W s2.heap I2.kIn
          obtain ⟨q', hq1, hq2⟩ := val_paired pr (val_kvs hz)
          refine ⟨dd.typeIs, wpAny_getItem_heap (tupleKind_room_in1 hu) (key_sq I2 (ks := [.inl a1, .inl b1]) (same_t hide_sub hq)) dd hq1 ?_⟩
          exact ⟨.str z, H2, I2.tok _, hq2, q _ H2 s12 (.str z)⟩
  · cases e
end
/-! ### the head -/
section
open He
theorem saysX_ofA {as : List Addr} {fa : List Fa} {fn : List DefD} {ts : List Tab} {tf : List Defn} {ex : PySem.W.Frag → Bool} {w : World} {h : Heap} (e1 : obsT fa fn ts (frT h.get? as) = valT fn ts w) (e2 : (ex (frT h.get? as) && tabsB h.get? tf (frT h.get? as)) = true) : SaysX fa fn ts tf ex w h (frT h.get? as) := by
  obtain ⟨h1, h2⟩ := ba e2
  have key : ∀ p ∈ tf, PySem.W.codeHdIn (frT h.get? as) (cT (frT h.get? as) p).1 (cT (frT h.get? as) p).2 = true ∧ ∃ o, h.get? (cT (frT h.get? as) p).2 = some o ∧ emptyTab o = true := fun p hp => by
    obtain ⟨h3, h4⟩ := ba (List.all_eq_true.mp h2 p hp)
    refine ⟨h3, ?_⟩
    cases q : h.get? (cT (frT h.get? as) p).2 with
    | none => rw [q] at h4; cases h4
    | some o => rw [q] at h4; exact ⟨o, rfl, h4⟩
  exact ⟨e1, h1, fun p hp => (key p hp).1, fun p hp => by
    obtain ⟨_, o, q, z⟩ := key p hp
    exact frT_none q z, fun p hp => by
    obtain ⟨_, o, q, z⟩ := key p hp
    rw [q, emptyTab_eq z]⟩
def keysOf (g : Addr → Option Obj) (a : Addr) : List Addr := match g a with
  | some ⟨_, _, .dict es _, _⟩ => es.toList.flatMap fun e => refV e.key
  | _ => []
/-- what the module's names reach, and a dict's keys -/
def asY (n : Nat) (x : Str) (g : Addr → Option Obj) : List Addr := asD g n ++ keysOf g (ga (frT g (asD g n)) x)
def obsY (n : Nat) (x : Str) (fa : List Fa) (fn : List DefD) (tf : List Defn) (ex : PySem.W.Frag → Bool) (g : Addr → Option Obj) : AlX := (obsT fa fn [] (frT g (asY n x g)), ex (frT g (asY n x g)) && tabsB g tf (frT g (asY n x g)))
def hookY (n : Nat) (x : Str) (fa : List Fa) (fn : List DefD) (tf : List Defn) (ex : PySem.W.Frag → Bool) : PySem.W.Hook where
  α := AlX
  obs := fun s => obsY n x fa fn tf ex s.heap.get?
  val := fun w => valX fn [] w
  says := fun w h => ∃ K : PySem.W.Frag, K.In h ∧ SaysX fa fn [] tf ex w h K
  of := fun _ _ e => ⟨_, frT_in, saysX_ofA (congrArg (fun z : AlX => z.1) e) (congrArg (fun z : AlX => z.2) e)⟩
  keeps := fun _ _ _ ⟨K, hK, c⟩ k => ⟨K, PySem.W.Frag.In.keeps hK k, ⟨c.t, c.more, c.hd, c.out, fun p hp => k _ _ (c.empty p hp)⟩⟩
theorem obsY_eq {n : Nat} {x : Str} {fa : List Fa} {fn : List DefD} {tf : List Defn} {ex : PySem.W.Frag → Bool} {g : Addr → Option Obj} {s : Shared} (h : ∀ a, g a = s.heap.get? a) : obsY n x fa fn tf ex g = (hookY n x fa fn tf ex).obs s := by
  have e : g = s.heap.get? := funext h
  rw [e] <;> rfl
end
end BL

set_option Elab.async false
set_option linter.all false
set_option maxRecDepth 100000
/-! Lists of new boxes. -/
namespace BL
open PySem PySem.Spec PyProof.Rows L2 LamX
/-- one new box -/
def tNB1 (K : PySem.W.Frag) (k : Bool) (f : FA) : TE := fun σ H Q => ∃ O0 O r xs, RepE K O0 O σ H r ∧ f r = some xs ∧ ∀ a ws H', Same H H' → H a = none → HoIs K H' a k ws → (∀ H2, RpAll K H2 ws xs) → Q (.ref a) H'
def BoxesAt (K : PySem.W.Frag) (H : Hp) (k : Bool) (as : List Addr) (xss : List (List Dt)) : Prop := as.length = xss.length ∧ ∀ (j : Nat) a xs, as[j]? = some a → xss[j]? = some xs → ∃ ws, HoIs K H a k ws ∧ ∀ H2, RpAll K H2 ws xs
/-- a new list of new boxes -/
def tNBs (K : PySem.W.Frag) (k : Bool) (f : Env → Option (List (List Dt))) : TE := fun σ H Q => ∃ O0 O r xss, RepE K O0 O σ H r ∧ f r = some xss ∧ ∀ (D : Addr) (as : List Addr) H', Same H H' → H D = none → (∀ a ∈ as, H a = none) → H' D = some (.lst (as.map V.ref)) → D ∉ as → as.Nodup → BoxesAt K H' k as xss → Q (.ref D) H'
theorem nbs_frz {K : PySem.W.Frag} {k : Bool} {f : Env → Option (List (List Dt))} {σ : L2.St} {H : Hp} {Q : VK} (q : tNBs K k (fun r => f (freeze r)) σ H Q) : tNBs K k f σ H Q := by
  obtain ⟨O0, O, r, xss, R, e, q⟩ := q
  exact ⟨[], [], freeze r, xss, R.frz, e, q⟩
theorem flat_all {K : PySem.W.Frag} : ∀ {xs : List Dt} {ws : List V} {H : Hp}, xs.all flatD = true → RpAll K H ws xs → ∀ H2, RpAll K H2 ws xs
  | [], _, _, _, h, H2 => by cases h; exact .nil
  | x :: xs, _, _, hf, h, H2 => by
    rw [List.all_cons, Bool.and_eq_true] at hf
    cases h with
    | cons h1 h2 => exact .cons (rp_flat hf.1 h1) (flat_all hf.2 h2 H2)
def aFlat (t : FA) (r : Env) : Option (List Dt) := (t r).bind fun xs => if xs.all flatD && sizeOk xs.length then some xs else none
section
variable {X : Cx} {es : List Expr} {t : FA} {pos : Pos}
theorem dNewL (h : PA X es (tDA X.K t)) : PE X (.List es pos) (tNB1 X.K false (aFlat t)) := (pe_lst h).imp fun σ H Q ⟨O0, O, r, xs, R, e, q⟩ => by
  unfold aFlat at e
  obtain ⟨ys, ey, e⟩ := Option.bind_eq_some_iff.mp e
  split at e
  · rename_i hc
    rw [Bool.and_eq_true] at hc
    cases e
    refine ⟨O0, O, r, _, R, ey, fun vs H1 s1 ra => ⟨by rw [ra.length]; exact sizeOk_le hc.2, fun p hp => ?_⟩⟩
    refine q p vs _ (s1.trans (same_new hp)) ?_ upd_same (flat_all hc.1 ra)
    cases z : H p with
    | none => rfl
    | some o => rw [s1 p o z] at hp; cases hp
  · cases e
/-- Stroll(a, b) -/
def aStroll (g : FX) (t : FA) (r : Env) : Option (List Dt) := (t r).bind fun ds => match ds with
  | [a, b] => (g [a, b]).bind fun z => match z with
    | .ok _ => if flatD a && flatD b then some [a, b, .int 0] else none
    | .error _ => none
  | _ => none
theorem dNewS {a : Expr} {k : Nat} {gg : FX} {x : Str} {p : Pos} (A : AvI X.prog X.w X.K X.mg X.base x k gg "size" "pose" "at" (StC X.K)) (hr : Room k X.A) (hg : Gl X x)
    (ha : PA X (a :: es) (tDA X.K t)) (hdb : (x == ("__debug__" : Str)) = false := by decide) (he : starEach (a :: es) X.env = (false, eval a X.env) :: starEach es X.env := by rfl)
    (hpl : (backTo pos (starEach es X.env)).any (·.1) = false := by rfl) : PE X (.Call (.Name x p) (a :: es) [] pos) (tNB1 X.K true (aStroll gg t)) := by
  obtain ⟨fa, fd, ps, k', rfl, M, F, gl, bd⟩ := A
  refine (pe_make M F hr hg gl bd .nil no_pass ha hdb he hpl).imp fun σ H Q ⟨O0, O, r, xs, R, e, q⟩ => ?_
  unfold aStroll at e
  obtain ⟨ds, ed, e⟩ := Option.bind_eq_some_iff.mp e
  split at e
  · rename_i d1 d2
    obtain ⟨z, ez, e⟩ := Option.bind_eq_some_iff.mp e
    split at e
    · rename_i d0
      split at e
      · rename_i hf
        rw [Bool.and_eq_true] at hf
        cases e
        refine ⟨O0, O, r, [d1, d2], R, ed, fun vs H1 s1 ra y dy hy hdy hne => ?_⟩
        obtain ⟨u1, u2, rfl, r1, r2⟩ := rpAll2 ra
        have sm1 : Same H1 (upd H1 dy (.own y)) := same_new hdy
        have hy' : upd H1 dy (.own y) y = none := by rw [upd_ne (fun w => hne w.symm)]; exact hy
        have sm2 : Same H1 (upd (upd H1 dy (.own y)) y (.ins (StC X.K) dy [])) := sm1.trans (same_new hy')
        have t1 := (R.trk.mn s1).mn sm2
        have t2 : Trk (y :: O) (upd (upd H1 dy (.own y)) y (.ins (StC X.K) dy [])) := fun b hb => by
          rcases List.mem_cons.mp hb with rfl | hb
          · exact ⟨_, upd_same⟩
          · exact t1 b hb
        have fl : ∀ H2, RpAll X.K H2 [u1, u2] [d1, d2] := flat_all (by simp [hf.1, hf.2]) ra
        refine ⟨y, dy, u1, u2, y :: O, [d1, d2], .ok d0, by simp, upd_same, List.mem_cons_self, t2, fl _, ez, fun d hd' H' k1 h1 => ⟨rfl, ?_⟩, fun c hc => by cases hc⟩
        refine q y [u1, u2, .int 0] H' (fun b o hb => ?_) ?_ ⟨rfl, dy, h1⟩ fun H2 => ?_
        · have hb1 := s1 b o hb
          exact k1 b o (fun w => by rw [w, hy] at hb1; cases hb1) (sm2 b o hb1)
        · cases z : H y with
          | none => rfl
          | some o => rw [s1 y o z] at hy; cases hy
        · cases fl H2 with
          | cons g1 g2 =>
            cases g2 with
            | cons g2 g3 => exact .cons g1 (.cons g2 (.cons (.int 0) .nil))
      · cases e
    · cases e
  · cases e
end
/-! ### the comprehension -/
def goB (g : TGD) (f : FA) (r : Env) : List Dt → Option (List (List Dt))
  | [] => some []
  | x :: xs => (g x r).bind fun r1 => (f r1).bind fun z => (goB g f r xs).bind fun zs => some (z :: zs)
def aLcB (i : FA) (g : TGD) (f : FA) (vs : List Nat) (r : Env) : Option (List (List Dt)) := (i r).bind fun xs => if sizeOk xs.length then goB g f (wipeD r vs) xs else none
theorem lcB_imp {K : PySem.W.Frag} {k : Bool} {fi : FA} {g : TGD} {f : FA} {vs is : List Nat} (hv : ∀ i ∈ is, i ∈ vs) {σ : L2.St} {H : Hp} {Q : VK} (q : tNBs K k (aLcB fi g f vs) σ H Q) : tLc (iD K fi) (tgD K g is) (tDT K eYes) (tNB1 K k f) vs σ H Q := by
  obtain ⟨O0, O, r, all, R, ee, q⟩ := q
  unfold aLcB at ee
  obtain ⟨xs, exs, ee⟩ := Option.bind_eq_some_iff.mp ee
  by_cases hsz : sizeOk xs.length = true
  case neg => rw [if_neg hsz] at ee; cases ee
  rw [if_pos hsz] at ee
  refine ⟨O0, O, r, xs, R, exs, fun J H1 s1 Wk D hD => ?_⟩
  have R1 := R.mn s1
  refine ⟨fun i m H => m = xs.length - i ∧ i ≤ xs.length ∧ (∀ b o, b ≠ D → H1 b = some o → H b = some o) ∧ ∃ as done rest, H D = some (.lst (as.map V.ref)) ∧ (∀ a ∈ as, H1 a = none ∧ a ≠ D) ∧ as.Nodup ∧ BoxesAt K H k as done ∧ goB g f (wipeD r vs) (xs.drop i) = some rest ∧ done ++ rest = all ∧ as.length ≤ i,
    ⟨xs.length, by omega, Nat.zero_le _, fun b o hb h => by rw [upd_ne hb]; exact h, [], [], all, upd_same, fun a h => (by cases h), List.nodup_nil, ⟨rfl, fun j a ys h => (by cases h)⟩, by simpa using ee, rfl, Nat.le_refl _⟩, ?_⟩
  rintro i m H2 ⟨rfl, hi, keep, as, done, rest, hacc, hnew, hnd, hbx, hgo, hall, hlen⟩
  have ne : ∀ b o, H1 b = some o → b ≠ D := fun b o e z => by rw [z, hD] at e; cases e
  have L : Later [] O H1 (D :: O) H2 := ⟨fun p h => List.mem_cons_of_mem _ h, fun p h => by
    rcases List.mem_cons.mp h with z | z
    · rw [z]; exact .inr hD
    · exact .inl z, fun b o n h => keep b o (ne b o h) h, fun p ⟨o, h⟩ => ⟨o, keep p o (ne p o h) h⟩⟩
  have R2 : RepE K O0 (D :: O) (L2.wipe σ vs) H2 (wipeD r vs) := (R1.wipe vs).more hD keep ⟨_, hacc, trivial⟩
  obtain ⟨w1, w2⟩ := Wk i (D :: O) H2 L R2.trk
  by_cases hlt : i < xs.length
  · refine .inr ⟨(w2 hlt).1, _, fun H' w => ⟨xs.length - (i + 1), by omega, w⟩, fun x H3 y => ?_⟩
    obtain ⟨s2, hx⟩ := (w2 hlt).2 x H3 y
    have hxi : xs[i]? = some xs[i] := by simp [hlt]
    have rx := hx _ hxi
    rw [List.drop_eq_getElem_cons hlt] at hgo
    unfold goB at hgo
    obtain ⟨r1, eg, hgo⟩ := Option.bind_eq_some_iff.mp hgo
    obtain ⟨z, ez, hgo⟩ := Option.bind_eq_some_iff.mp hgo
    obtain ⟨zs, ezs, hgo⟩ := Option.bind_eq_some_iff.mp hgo
    cases hgo
    refine ⟨O0, D :: O, wipeD r vs, _, r1, R2.mn s2, rx, eg, fun σ' R3 hw => ⟨by rw [hw vs hv, wipe_idem σ vs vs fun _ h => h], ?_⟩⟩
    refine ⟨O0, D :: O, r1, true, R3, rfl, fun H4 s4 => ?_⟩
    refine iteT ?_
    have keep4 : ∀ b o, b ≠ D → H1 b = some o → H4 b = some o := fun b o hb h => s4 b o (s2 b o (keep b o hb h))
    have hacc4 : H4 D = some (.lst (as.map V.ref)) := s4 _ _ (s2 _ _ hacc)
    refine ⟨O0, D :: O, r1, z, R3.mn s4, ez, fun a ws H5 s5 ha hw5 fw => ⟨as.map V.ref, s5 _ _ hacc4, ?_, rfl, hlt, fun b o hb h => ?_, as ++ [a], done ++ [z], zs, ?_, fun b hb => ?_, ?_, ?_, ezs, ?_, ?_⟩⟩
    · have := sizeOk_lt hsz
      rw [List.length_map]
      omega
    · rw [upd_ne hb]; exact s5 b o (keep4 b o hb h)
    · rw [upd_same, List.map_append]; rfl
    · rcases List.mem_append.mp hb with hb | hb
      · exact hnew b hb
      · cases List.mem_singleton.mp hb
        refine ⟨?_, fun z => by rw [z, hacc4] at ha; cases ha⟩
        cases z : H1 a with
        | none => rfl
        | some o =>
          rw [keep4 a o (ne a o z) z] at ha
          cases ha
    · rw [List.nodup_append]
      refine ⟨hnd, List.nodup_cons.mpr ⟨by simp, List.nodup_nil⟩, fun b hb c hc z => ?_⟩
      cases List.mem_singleton.mp hc
      subst z
      obtain ⟨j, hj, e⟩ := List.mem_iff_getElem.mp hb
      obtain ⟨ws', h1, _⟩ := hbx.2 j b (done[j]'(by rw [← hbx.1]; exact hj)) (by rw [List.getElem?_eq_getElem hj, e]) (List.getElem?_eq_getElem _)
      obtain ⟨o, h2, _⟩ := h1.bxo
      rw [s4 _ _ (s2 _ _ h2)] at ha
      cases ha
    · have nD : ∀ b, b ∈ as ++ [a] → b ≠ D := fun b hb => by
        rcases List.mem_append.mp hb with hb | hb
        · exact (hnew b hb).2
        · cases List.mem_singleton.mp hb
          exact fun z => by rw [z, hacc4] at ha; cases ha
      refine ⟨by rw [List.length_append, List.length_append, hbx.1]; rfl, fun j b ys hj hy => ?_⟩
      have nb := nD b (List.mem_of_getElem? hj)
      by_cases hjl : j < as.length
      · rw [List.getElem?_append_left hjl] at hj
        rw [List.getElem?_append_left (by rw [← hbx.1]; exact hjl)] at hy
        obtain ⟨ws', h1, h2⟩ := hbx.2 j b ys hj hy
        exact ⟨ws', h1.to fun o ho _ => by rw [upd_ne nb]; exact s5 _ _ (s4 _ _ (s2 _ _ ho)), h2⟩
      · rw [List.getElem?_append_right (by omega)] at hj
        rw [List.getElem?_append_right (by rw [← hbx.1]; omega)] at hy
        have hj0 : j - as.length = 0 := by
          have := (List.getElem?_eq_some_iff.mp hj).1
          simpa using this
        rw [hj0] at hj
        rw [← hbx.1, hj0] at hy
        cases hj
        cases hy
        exact ⟨ws, hw5.to fun o ho _ => by rw [upd_ne nb]; exact ho, fw⟩
    · rw [List.append_assoc]; exact hall
    · rw [List.length_append]
      simp only [List.length_cons, List.length_nil]
      omega
  · refine .inl ⟨w1 (by omega), ?_⟩
    rw [List.drop_eq_nil_of_le (by omega)] at hgo
    unfold goB at hgo
    cases hgo
    rw [List.append_nil] at hall
    subst hall
    have back : ∀ b, H1 b = none → H b = none := fun b hb => by
      cases z : H b with
      | none => rfl
      | some o => rw [s1 b o z] at hb; cases hb
    exact q D as H2 (fun b o h => keep b o (ne b o (s1 b o h)) (s1 b o h)) (back D hD) (fun a ha => back a (hnew a ha).1) hacc (fun h => (hnew D h).2 rfl) hnd hbx
end BL

set_option Elab.async false
set_option linter.all false
set_option maxRecDepth 100000
/-! The state with lists of boxes: made, written. -/
namespace BL
open PySem PySem.Spec PyProof.Rows L2 LamX
section
variable {K : PySem.W.Frag} {O0 O : List Addr} {σ : L2.St} {H H' : Hp} {r : Env}
theorem hide_news {N : List Addr} (hN : ∀ a ∈ N, H a = none) (hk : Same H H') : Same (hide O H) (hide (N ++ O) H') := fun b o e => by
  have e1 := hide_sub b o e
  have n : b ∉ N ++ O := fun z => by
    rcases List.mem_append.mp z with z | z
    · rw [hN b z] at e1; cases e1
    · unfold hide at e; rw [if_pos z] at e; cases e
  exact hide_in n (hk b o e1)
theorem RepE0.grow (R : RepE0 K O0 O σ H r) {N : List Addr} (hN : ∀ a ∈ N, H a = none) (hp : ∀ a ∈ N, ∃ o, H' a = some o ∧ Pl o) (e : Same H H') : RepE0 K O0 (N ++ O) σ H' r where
  len := R.len
  dat := fun i d h => let ⟨v, h1, h2⟩ := R.dat i d h; ⟨v, h1, h2.mn (hide_news hN e)⟩
  own := fun i xs h => let ⟨p, vs, h1, h2, h3, h4, h5⟩ := R.own i xs h; ⟨p, vs, h1, List.mem_append_right _ h2, h3, e _ _ h4, h5.mn (hide_news hN e)⟩
  scr := fun i xs h => let ⟨p, vs, h1, h2, h3⟩ := R.scr i xs h; ⟨p, vs, h1, same_l (hide_news hN e) h2, h3.mn (hide_news hN e)⟩
  exc := fun i c h => let ⟨p, C, h1, h2, h3⟩ := R.exc i c h; ⟨p, C, h1, h2, hide_news hN e p _ h3⟩
  inj := R.inj
  trk := fun p hq => (List.mem_append.mp hq).elim (fun h => (hp p h).imp fun _ z => z.1) fun h => (R.trk p h).imp fun o z => e p o z
  sub := fun p h => List.mem_append_right _ (R.sub p h)
  nt := fun p hq => (List.mem_append.mp hq).elim (fun h => .inr (hp p h)) fun h => (R.nt p h).imp id fun ⟨o, z, y⟩ => ⟨o, e p o z, y⟩
/-- a slot takes boxes -/
theorem RepE0.setX (R : RepE0 K O0 O σ H r) (i : Nat) (v : Option V) (k : Bool) (xss : List (List Dt)) : RepE0 K O0 O (σ.set i v) H (r.set i (some (.bxs k xss))) := by
  have off : ∀ (j : Nat) s, (r.set i (some (.bxs k xss)))[j]? = some (some s) → isBx s = false → i ≠ j ∧ r[j]? = some (some s) := fun j s h hb => by
    by_cases e : i = j
    · subst e
      rw [List.getElem?_set_self (set_len h)] at h
      cases h
      cases hb
    · rw [List.getElem?_set_ne e] at h
      exact ⟨e, h⟩
  refine ⟨by rw [List.length_set, List.length_set, R.len], fun j x hj => ?_, fun j zs hj => ?_, fun j zs hj => ?_, fun j c hj => ?_, fun a b q us zs ab ha hb va vb => ?_, R.trk, R.sub, R.nt⟩
  · obtain ⟨n, h⟩ := off j _ hj rfl
    rw [List.getElem?_set_ne n]; exact R.dat j x h
  · obtain ⟨n, h⟩ := off j _ hj rfl
    rw [List.getElem?_set_ne n]; exact R.own j zs h
  · obtain ⟨n, h⟩ := off j _ hj rfl
    rw [List.getElem?_set_ne n]; exact R.scr j zs h
  · obtain ⟨n, h⟩ := off j _ hj rfl
    rw [List.getElem?_set_ne n]; exact R.exc j c h
  · obtain ⟨n, h⟩ := off a _ ha rfl
    obtain ⟨m, h'⟩ := off b _ hb rfl
    rw [List.getElem?_set_ne n] at va
    rw [List.getElem?_set_ne m] at vb
    exact R.inj a b q us zs ab h h' va vb
theorem Fp.old (R : RepE K O0 O σ H r) (e : Same H H') {j : Nat} {t : Sl} (hj : r[j]? = some (some t)) {q : Addr} (f : Fp σ H' j t q) : ∃ o, H q = some o := by
  cases t with
  | own xs =>
    obtain ⟨p, vs, h1, h2, h3, h4, _⟩ := R.own j xs hj
    have f' : σ[j]? = some (some (.ref q)) := f
    rw [h1] at f'
    cases f'
    exact ⟨_, h4⟩
  | obj b k a xs =>
    obtain ⟨ws, h1, h2, _, h3, _⟩ := R.bx.obj j b k a xs hj
    have f' : σ[j]? = some (some (.ref q)) := f
    rw [h1] at f'
    cases f'
    exact h3.bxo.imp fun _ z => z.1
  | bxs k xss =>
    obtain ⟨p, as, h1, h2, _, h3, _, _, hl, h4⟩ := R.bx.bxs j k xss hj
    rcases (show _ ∨ _ from f) with f' | ⟨p', as', h5, h6, h7⟩
    · rw [h1] at f'
      cases f'
      exact ⟨_, h3⟩
    · rw [h1] at h5
      cases h5
      rw [e _ _ h3] at h6
      have e2 := refs_inj (HO.lst.inj (Option.some.inj h6))
      subst e2
      exact (Fp.mem R.bx hj rfl (.inr ⟨p, as, h1, h3, h7⟩)).2.imp fun _ z => z.1
  | _ => exact f.elim
theorem RepE.newBoxs (R : RepE K O0 O σ H r) {i : Nat} {k : Bool} {D : Addr} {as : List Addr} {xss : List (List Dt)} (e : Same H H') (hD : H D = none) (hnew : ∀ a ∈ as, H a = none) (hw : H' D = some (.lst (as.map V.ref))) (hDn : D ∉ as) (nd : as.Nodup) (bx : BoxesAt K H' k as xss) :
    RepE K O0 ((D :: as) ++ O) (σ.set i (some (.ref D))) H' (r.set i (some (.bxs k xss))) := by
  have hN : ∀ a ∈ D :: as, H a = none := fun a ha => (List.mem_cons.mp ha).elim (fun z => by rw [z]; exact hD) (hnew a)
  have box : ∀ a ∈ as, ∃ j xs, as[j]? = some a ∧ xss[j]? = some xs := fun a ha => by
    obtain ⟨j, hj, e1⟩ := List.mem_iff_getElem.mp ha
    exact ⟨j, _, by rw [List.getElem?_eq_getElem hj, e1], List.getElem?_eq_getElem (by rw [← bx.1]; exact hj)⟩
  have hp : ∀ a ∈ D :: as, ∃ o, H' a = some o ∧ Pl o := fun a ha => (List.mem_cons.mp ha).elim (fun z => by rw [z]; exact ⟨_, hw, trivial⟩) fun h => by
    obtain ⟨j, xs, h1, h2⟩ := box a h
    obtain ⟨ws, z, _⟩ := bx.2 j a xs h1 h2
    exact z.pl
  have nO : ∀ a ∈ D :: as, a ∉ O := fun a ha z => by
    obtain ⟨o, h⟩ := R.trk a z
    rw [hN a ha] at h; cases h
  have B : RepB K O0 ((D :: as) ++ O) σ H' r := R.bx.conv (fun p h => List.mem_append_right _ h) (fun _ _ p o _ _ _ h _ => e p o h) fun ws xs h => h.mn (hide_news hN e)
  have off : ∀ (j : Nat) t, (r.set i (some (.bxs k xss)))[j]? = some (some t) → (i ≠ j ∧ r[j]? = some (some t)) ∨ (i = j ∧ t = .bxs k xss ∧ i < r.length) := fun j t h => by
    by_cases e : i = j
    · subst e
      have hl := set_len h
      rw [List.getElem?_set_self hl] at h
      exact .inr ⟨rfl, (Option.some.inj (Option.some.inj h)).symm, hl⟩
    · rw [List.getElem?_set_ne e] at h
      exact .inl ⟨e, h⟩
  have mine : ∀ q, i < r.length → Fp (σ.set i (some (.ref D))) H' i (.bxs k xss) q → q ∈ D :: as := fun q hl f => by
    have hs : (σ.set i (some (.ref D)))[i]? = some (some (.ref D)) := List.getElem?_set_self (by rw [R.len]; exact hl)
    rcases (show _ ∨ _ from f) with f' | ⟨p', as', h5, h6, h7⟩
    · rw [hs] at f'
      cases f'
      exact List.mem_cons_self
    · rw [hs] at h5
      cases h5
      rw [hw] at h6
      have e2 := refs_inj (HO.lst.inj (Option.some.inj h6))
      subst e2
      exact List.mem_cons_of_mem _ h7
  refine ⟨(R.toRepE0.grow hN hp e).setX i _ k xss, fun j b k' p ys hj => ?_, fun j k' yss hj => ?_, fun a b s t q ab ha hb h6 f1 f2 => ?_⟩
  · rcases off j _ hj with ⟨n, h⟩ | ⟨_, h, _⟩
    · rw [List.getElem?_set_ne n]; exact B.obj j b k' p ys h
    · cases h
  · rcases off j _ hj with ⟨n, h⟩ | ⟨n, h, hl⟩
    · rw [List.getElem?_set_ne n]; exact B.bxs j k' yss h
    · subst n
      cases h
      refine ⟨D, as, List.getElem?_set_self (by rw [R.len]; exact hl), List.mem_append_left _ List.mem_cons_self, fun z => nO D List.mem_cons_self (R.sub D z), hw, hDn, nd, bx.1, fun m a xs h1 h2 => ?_⟩
      have ha : a ∈ D :: as := List.mem_cons_of_mem _ (List.mem_of_getElem? h1)
      obtain ⟨ws, z1, z2⟩ := bx.2 m a xs h1 h2
      exact ⟨List.mem_append_left _ ha, fun z => nO a ha (R.sub a z), ws, z1, z2 _⟩
  · rcases off a _ ha with ⟨n, h1⟩ | ⟨n, h1, hl⟩
    · have g1 := fp_set n f1
      rcases off b _ hb with ⟨m, h2⟩ | ⟨m, h2, hl⟩
      · exact B.sep a b s t q ab h1 h2 h6 g1 (fp_set m f2)
      · subst m h2
        obtain ⟨o, z⟩ := Fp.old R e h1 g1
        rw [hN q (mine q hl f2)] at z
        cases z
    · subst n h1
      rcases off b _ hb with ⟨m, h2⟩ | ⟨m, h2, _⟩
      · obtain ⟨o, z⟩ := Fp.old R e h2 (fp_set m f2)
        rw [hN q (mine q hl f1)] at z
        cases z
      · exact ab m
/-- one box of a list is written -/
theorem RepE.upBxs (R : RepE K O0 O σ H r) {i j : Nat} {k : Bool} {p a : Addr} {as : List Addr} {xss : List (List Dt)} {ys : List Dt} {u : HO} {ws : List V} (hi : r[i]? = some (some (.bxs k xss))) (hs : σ[i]? = some (some (.ref p))) (hw : H p = some (.lst (as.map V.ref))) (ha : as[j]? = some a)
    (hu : HoIs K (upd H a u) a k ws) (ra : RpAll K (hide O H) ws ys) : RepE K O0 O σ (upd H a u) (r.set i (some (.bxs k (xss.set j ys)))) := by
  obtain ⟨p', as', h1, h2, h3, h4, h5, h6, h7, h8⟩ := R.bx.bxs i k xss hi
  rw [hs] at h1
  cases h1
  rw [hw] at h4
  have e0 := refs_inj (HO.lst.inj (Option.some.inj h4))
  subst e0
  have hjl : j < as.length := (List.getElem?_eq_some_iff.mp ha).1
  obtain ⟨xs, hxs⟩ : ∃ xs, xss[j]? = some xs := ⟨_, List.getElem?_eq_getElem (by rw [← h7]; exact hjl)⟩
  obtain ⟨aO, aO0, _⟩ := h8 j a xs ha hxs
  have ham := List.mem_of_getElem? ha
  have hpa : p ≠ a := fun z => h5 (by rw [z]; exact ham)
  have hh : hide O (upd H a u) = hide O H := hide_upd aO
  have hl : i < r.length := (List.getElem?_eq_some_iff.mp hi).1
  have fa : Fp σ H i (.bxs k xss) a := .inr ⟨p, as, hs, hw, ham⟩
  have off : ∀ (m : Nat) t, (r.set i (some (.bxs k (xss.set j ys))))[m]? = some (some t) → (i ≠ m ∧ r[m]? = some (some t)) ∨ (i = m ∧ t = .bxs k (xss.set j ys)) := fun m t h => by
    by_cases e : i = m
    · subst e
      rw [List.getElem?_set_self hl] at h
      exact .inr ⟨rfl, (Option.some.inj (Option.some.inj h)).symm⟩
    · rw [List.getElem?_set_ne e] at h
      exact .inl ⟨e, h⟩
  have nd : ∀ (m : Nat) s, (r.set i (some (.bxs k (xss.set j ys))))[m]? = some (some s) → isBx s = false → i ≠ m ∧ r[m]? = some (some s) := fun m s h hb => by
    rcases off m s h with z | ⟨_, z⟩
    · exact z
    · subst z; cases hb
  have ne : ∀ (m : Nat) s q, r[m]? = some (some s) → i ≠ m → Fp σ H m s q → q ≠ a := fun m s q hm n f z => by
    subst z
    exact R.bx.sep i m _ s q n hi hm rfl fa f
  have back : ∀ (m : Nat) t q, r[m]? = some (some t) → i ≠ m → Fp σ (upd H a u) m t q → Fp σ H m t q := fun m t q hm n f => by
    cases t with
    | bxs k' yss =>
      obtain ⟨p2, as2, g1, g2, g3, g4, _⟩ := R.bx.bxs m k' yss hm
      rcases (show _ ∨ _ from f) with f | ⟨p', as', f1, f2, f3⟩
      · exact .inl f
      · rw [g1] at f1
        cases f1
        rw [upd_ne (ne m _ p2 hm n (.inl g1)), g4] at f2
        have e := refs_inj (HO.lst.inj (Option.some.inj f2))
        subst e
        exact .inr ⟨p2, as2, g1, g4, f3⟩
    | _ => exact f
  have mine : ∀ q, Fp σ (upd H a u) i (.bxs k (xss.set j ys)) q → Fp σ H i (.bxs k xss) q := fun q f => by
    rcases (show _ ∨ _ from f) with f | ⟨p', as', f1, f2, f3⟩
    · exact .inl f
    · rw [hs] at f1
      cases f1
      rw [upd_ne hpa, hw] at f2
      have e := refs_inj (HO.lst.inj (Option.some.inj f2))
      subst e
      exact .inr ⟨p, as, hs, hw, f3⟩
  refine ⟨⟨by rw [List.length_set, R.len], fun m x hm => ?_, fun m zs hm => ?_, fun m zs hm => ?_, fun m c hm => ?_, fun b c q us zs bc hb hc vb vc => ?_, fun q hq => ?_, R.sub, fun q hq => ?_⟩, fun m b k' p2 zs hm => ?_, fun m k' yss hm => ?_, fun b c s t q bc hb hc h9 f1 f2 => ?_⟩
  · rw [hh]; exact R.dat m x (nd m _ hm rfl).2
  · obtain ⟨n, hm'⟩ := nd m _ hm rfl
    obtain ⟨q, us, g1, g2, g3, g4, g5⟩ := R.own m zs hm'
    exact ⟨q, us, g1, g2, g3, by rw [upd_ne (ne m _ q hm' n g1)]; exact g4, by rw [hh]; exact g5⟩
  · rw [hh]; exact R.scr m zs (nd m _ hm rfl).2
  · rw [hh]; exact R.exc m c (nd m _ hm rfl).2
  · exact R.inj b c q us zs bc (nd b _ hb rfl).2 (nd c _ hc rfl).2 vb vc
  · by_cases e : q = a
    · subst e; exact ⟨u, upd_same⟩
    · obtain ⟨o, h⟩ := R.trk q hq
      exact ⟨o, by rw [upd_ne e]; exact h⟩
  · by_cases e : q = a
    · subst e; exact .inr hu.pl
    · exact (R.nt q hq).imp id fun ⟨o, h, y⟩ => ⟨o, by rw [upd_ne e]; exact h, y⟩
  · rcases off m _ hm with ⟨n, hm'⟩ | ⟨_, e⟩
    · obtain ⟨ws', g1, g2, g3, g4, g5⟩ := R.bx.obj m b k' p2 zs hm'
      exact ⟨ws', g1, g2, g3, g4.to fun o h _ => by rw [upd_ne (ne m _ p2 hm' n g1)]; exact h, by rw [hh]; exact g5⟩
    · cases e
  · rcases off m _ hm with ⟨n, hm'⟩ | ⟨n, e⟩
    · obtain ⟨p2, as2, g1, g2, g3, g4, g5, g6, g7, g8⟩ := R.bx.bxs m k' yss hm'
      refine ⟨p2, as2, g1, g2, g3, by rw [upd_ne (ne m _ p2 hm' n (.inl g1))]; exact g4, g5, g6, g7, fun l b zs hb hz => ?_⟩
      obtain ⟨z1, z2, ws', z3, z4⟩ := g8 l b zs hb hz
      exact ⟨z1, z2, ws', z3.to fun o h _ => by rw [upd_ne (ne m _ b hm' n (.inr ⟨p2, as2, g1, g4, List.mem_of_getElem? hb⟩))]; exact h, by rw [hh]; exact z4⟩
    · subst n
      cases e
      refine ⟨p, as, hs, h2, h3, by rw [upd_ne hpa]; exact hw, h5, h6, by rw [List.length_set]; exact h7, fun l b zs hb hz => ?_⟩
      by_cases hlj : j = l
      · subst hlj
        rw [ha] at hb
        cases hb
        rw [List.getElem?_set_self (by rw [← h7]; exact hjl)] at hz
        cases hz
        exact ⟨aO, aO0, ws, hu, by rw [hh]; exact ra⟩
      · rw [List.getElem?_set_ne hlj] at hz
        obtain ⟨z1, z2, ws', z3, z4⟩ := h8 l b zs hb hz
        have nb : b ≠ a := fun z => by
          subst z
          exact hlj ((List.getElem?_inj hjl h6).mp (ha.trans hb.symm))
        exact ⟨z1, z2, ws', z3.to fun o h _ => by rw [upd_ne nb]; exact h, by rw [hh]; exact z4⟩
  · rcases off b _ hb with ⟨n, hb'⟩ | ⟨n, e⟩
    · have k1 := back b s q hb' n f1
      rcases off c _ hc with ⟨m, hc'⟩ | ⟨m, e⟩
      · exact R.bx.sep b c s t q bc hb' hc' h9 k1 (back c t q hc' m f2)
      · subst m e
        exact R.bx.sep b i s _ q bc hb' hi h9 k1 (mine q f2)
    · subst n e
      rcases off c _ hc with ⟨m, hc'⟩ | ⟨m, e⟩
      · exact R.bx.sep i c _ t q bc hi hc' rfl (mine q f1) (back c t q hc' m f2)
      · exact bc m
end
/-! x = [.. for ..], a list of new boxes -/
@[simp] def sBoxs (i : Nat) (k : Bool) (f : Env → Option (List (List Dt))) (r : Env) : Option SOut := (f r).bind fun xss => some (.nx (r.set i (some (.bxs k xss))))
theorem nb_boxs {bad : SOut → Bool} [B : Bd bad] {i : Nat} {k : Bool} {f : Env → Option (List (List Dt))} : NoB bad (sBoxs i k f) := fun r o e => by
  obtain ⟨x, _, e⟩ := Option.bind_eq_some_iff.mp e
  cases e; exact B.nx _
section
variable {X : Cx} {e : Expr} {i : Nat} {k : Bool} {f : Env → Option (List (List Dt))} {x : Str} {pos pos' : Pos}
theorem zBoxs (h : PS X (.Assign [.Name x pos'] e pos) (tAsg (tNBs X.K k f) (gName i))) : PS X (.Assign [.Name x pos'] e pos) (tsD X.K (sBoxs i k f)) := h.imp fun D σ H ⟨O0, O, r, o, R, ee, q⟩ => by
  unfold sBoxs at ee
  obtain ⟨xss, ex, ee⟩ := Option.bind_eq_some_iff.mp ee
  cases ee
  refine ⟨O0, O, r, xss, R, ex, fun D0 as H1 s1 hD hn hw hDn nd bx => ?_⟩
  refine q _ _ H1 ⟨fun p h => List.mem_append_right _ h, fun p h => ?_, fun b o _ h => s1 b o h, fun p ⟨o, h⟩ => ⟨o, s1 p o h⟩⟩ (R.newBoxs s1 hD hn hw hDn nd bx)
  rcases List.mem_append.mp h with h | h
  · exact .inr ((List.mem_cons.mp h).elim (fun z => by rw [z]; exact hD) (hn p))
  · exact .inl h
theorem dSetLcB {y : Str} {py : Pos} {elt tg iter : Expr} {ifs : List Expr} {scope : Scope} {own : List (Str × Nat)} {spos : Pos} {fi : FA} {g : TGD} {is : List Nat} {f : FA} (hc : X.calm = true) (hN : X.N.Nodup) (hy : X.N[i]? = some y) (hyl : X.env.scope.names.lookup y = some .local)
    (hsw : swapsWith (.ListComp elt [⟨tg, iter, ifs, 0⟩] scope pos) (some (.Name y py)) spos.line X.env = pure true) (hi : PI X tg iter (iD X.K fi)) (ok : BlkOk X.N X.env.scope scope own)
    (hg : ∀ (s : Shared) (H : Hp) (C : Addr) (cl : List (Str × Addr)) (fp : List Addr), PG (X.blk s H scope (compEnvC scope cl C X.env) fp) tg (tgD X.K g is)) (ht : ∀ (s : Shared) (H : Hp) (C : Addr) (cl : List (Str × Addr)) (fp : List Addr), PTs (X.blk s H scope (compEnvC scope cl C X.env) fp) ifs (tDT X.K eYes))
    (he : ∀ (s : Shared) (H : Hp) (C : Addr) (cl : List (Str × Addr)) (fp : List Addr), PE (X.blk s H scope (compEnvC scope cl C X.env) fp) elt (tNB1 X.K k f)) (hv : ∀ i ∈ is, i ∈ own.map (·.2)) (hs : ∀ x, foldedSetIterable iter X.env x = pure x := by intro _; rfl) :
    PS X (.Assign [.Name y py] (.ListComp elt [⟨tg, iter, ifs, 0⟩] scope pos) spos) (tAsg (tNBs X.K k (aLcB fi g f (own.map (·.2)))) (gName i)) :=
  (ps_setLc hc hN hy hyl hsw hi ok hg ht he hs).imp fun D σ H q => lcB_imp hv q
theorem zFrzB (h : PS X (.Assign [.Name x pos'] e pos) (tAsg (tNBs X.K k f) (gName i))) : PS X (.Assign [.Name x pos'] e pos) (tAsg (tNBs X.K k (fun r => f (freeze r))) (gName i)) := h.imp fun D σ H q => nbs_frz q
end
end BL

set_option Elab.async false
set_option linter.all false
set_option maxRecDepth 100000
/-! Calls over boxes. -/
namespace BL
open PySem PySem.Spec PyProof.Rows L2 LamX
def nthB (xss : List (List Dt)) : Dt → Option (List Dt)
  | .int j => if 0 ≤ j then xss[j.toNat]? else none
  | _ => none
open Classical in
/-- what a def tells of an object, wherever the object stands -/
noncomputable def gAll {α : Type} (g : Nat → Option α) : Option α := if h : ∃ z, ∀ a, g a = some z then some (Classical.choose h) else none
theorem gAll_at {α : Type} {g : Nat → Option α} {z : α} (h : gAll g = some z) (a : Nat) : g a = some z := by
  unfold gAll at h
  split at h
  · rename_i hh
    cases h
    exact Classical.choose_spec hh a
  · cases h
theorem gAll_of {α : Type} {g : Nat → Option α} {z : α} (h : ∀ a, g a = some z) : gAll g = some z := by
  unfold gAll
  have hh : ∃ z, ∀ a, g a = some z := ⟨z, h⟩
  rw [dif_pos hh]
  have := Classical.choose_spec hh 0
  rw [h 0] at this
  exact this.symm
/-- the item of a slot's boxes -/
def boxD (k : Bool) (i : Nat) (e : FE) (r : Env) : Option (List Dt) := match r[i]? with
  | some (some (.bxs k' xss)) => if k' = k then (e r).bind (nthB xss) else none
  | _ => none
section
variable {K : PySem.W.Frag} {O0 O : List Addr} {σ : L2.St} {H : Hp} {r : Env}
/-- where it stands -/
theorem box_at {i : Nat} {k : Bool} {xss : List (List Dt)} {j : Int} {xs : List Dt} (R : RepE K O0 O σ H r) (hi : r[i]? = some (some (.bxs k xss))) (hj : nthB xss (.int j) = some xs) :
    ∃ (p : Addr) (as : List Addr) (a : Addr) (ws : List V), σ[i]? = some (some (.ref p)) ∧ H p = some (.lst (as.map V.ref)) ∧ 0 ≤ j ∧ as[j.toNat]? = some a ∧ xss[j.toNat]? = some xs ∧ a ∈ O ∧ a ∉ O0 ∧ HoIs K H a k ws ∧ RpAll K (hide O H) ws xs ∧ Fp σ H i (.bxs k xss) a := by
  have hj' : (if 0 ≤ j then xss[j.toNat]? else none) = some xs := hj
  clear hj
  split at hj'
  · rename_i h0
    have hj := hj'
    obtain ⟨p, as, h1, h2, h3, h4, h5, h6, h7, h8⟩ := R.bx.bxs i k xss hi
    have hl := (List.getElem?_eq_some_iff.mp hj).1
    have ha : as[j.toNat]? = some (as[j.toNat]'(by rw [h7]; exact hl)) := List.getElem?_eq_getElem _
    obtain ⟨z1, z2, ws, z3, z4⟩ := h8 _ _ xs ha hj
    exact ⟨p, as, _, ws, h1, h4, h0, ha, hj, z1, z2, z3, z4, .inr ⟨p, as, h1, h4, List.mem_of_getElem? ha⟩⟩
  · cases hj'
end
section
variable {X : Cx} {e e1 e2 : Expr} {es : List Expr} {f f1 f2 : FE} {t : FA} {i i1 i2 k : Nat} {ps : List Str} {g : GM} {x x1 x2 m : Str} {p p1 p2 apos pos q1 q2 : Pos}
/-- x[e], a box: its address -/
def tBox (K : PySem.W.Frag) (k : Bool) (i : Nat) (f : FE) : TE := fun σ H Q => ∃ O0 O r xss d xs, RepE K O0 O σ H r ∧ r[i]? = some (some (.bxs k xss)) ∧ f r = some d ∧ nthB xss d = some xs ∧
  ∀ a ws H', Same H H' → a ∈ O → a ∉ O0 → HoIs K H' a k ws → RpAll K (hide O H') ws xs → Fp σ H' i (.bxs k xss) a → (∃ j : Nat, (∃ (p : Addr) (as : List Addr), σ[i]? = some (some (.ref p)) ∧ H' p = some (.lst (as.map V.ref)) ∧ as[j]? = some a) ∧ xss[j]? = some xs ∧ d = .int j) → Q (.ref a) H'
theorem pe_box {k : Bool} (hx : PE X (.Name x p) (tVar i)) (he : PE X e (tD X.K f)) (hs : PlainIx e := by exact fun _ _ => rfl) : PE X (.Subscript (.Name x p) e pos) (tBox X.K k i f) :=
  (pe_ix ix_list hx he hs).imp fun σ H Q ⟨O0, O, r, xss, d, xs, R, hi, ed, hn, q⟩ => by
    obtain ⟨j, rfl⟩ : ∃ j, d = .int j := by
      unfold nthB at hn
      split at hn
      · exact ⟨_, rfl⟩
      · cases hn
    obtain ⟨p0, as0, _, _, h1, _⟩ := box_at R hi hn
    refine ⟨_, h1, O0, O, r, _, R, ed, fun v H1 s1 rv => ?_⟩
    have R1 := R.mn s1
    obtain ⟨p0', as, a, ws, h1', h2, h0, ha, hxs, z1, z2, z3, z4, z5⟩ := box_at R1 hi hn
    rw [h1] at h1'
    cases h1'
    have hal := (List.getElem?_eq_some_iff.mp ha).1
    rw [rp_int rv]
    refine ⟨_, _, j, .ref a, rfl, rfl, .inl (.of h2), ?_, q a ws H1 s1 z1 z2 z3 z4 z5 ⟨j.toNat, ⟨_, as, h1, h2, ha⟩, hxs, by rw [show ((j.toNat : Nat) : Int) = j by omega]⟩⟩
    unfold atI ixN
    rw [if_pos h0, List.length_map, if_pos (by omega)]
    show (as.map V.ref)[j.toNat]? = _
    rw [List.getElem?_map, ha]
    rfl
/-- x[e][e2], an item of a list -/
@[simp] def eBxIx (i : Nat) (f g : FE) (r : Env) : Option Dt := (boxD false i f r).bind fun xs => (g r).bind fun y => (oIx (.list xs) y).bind fun d => if flatD d then some d else none
theorem dBxIx (hx : PE X (.Name x p) (tVar i)) (he : PE X e (tD X.K f)) (he2 : PE X e2 (tD X.K f2)) (hs : PlainIx e := by exact fun _ _ => rfl) (hs2 : PlainIx e2 := by exact fun _ _ => rfl) :
    PE X (.Subscript (.Subscript (.Name x p) e q1) e2 pos) (tD X.K (eBxIx i f f2)) :=
  (pe_ix ix_list (pe_box (k := false) hx he hs) he2 hs2).imp fun σ H Q ⟨O0, O, r, d, R, ee, q⟩ => by
    unfold eBxIx at ee
    obtain ⟨xs, ex, ee⟩ := Option.bind_eq_some_iff.mp ee
    obtain ⟨y, ey, ee⟩ := Option.bind_eq_some_iff.mp ee
    obtain ⟨d', ed, ee⟩ := Option.bind_eq_some_iff.mp ee
    unfold boxD at ex
    split at ex
    · rename_i k' xss hi
      split at ex
      · rename_i hk
        subst hk
        obtain ⟨z, ez, ex⟩ := Option.bind_eq_some_iff.mp ex
        split at ee
        · rename_i hf
          cases ee
          refine ⟨O0, O, r, xss, z, xs, R, hi, ez, ex, fun a ws H1 s1 z1 z2 z3 z4 z5 _ => ⟨O0, O, r, y, R.mn s1, ey, fun v H2 s2 rv => ?_⟩⟩
          unfold oIx at ed
          split at ed
          · rename_i zs j hz
            cases hz
            obtain ⟨w, hw, rw'⟩ := atD_V z4 ed
            rw [rp_int rv]
            exact ⟨a, ws, j, w, rfl, rfl, .inl (.of (s2 _ _ z3)), hw, q w H2 (s1.trans s2) (rp_flat hf rw')⟩
          · rename_i hz; cases hz
          · cases ed
        · cases ee
      · cases ex
    · cases ex
/-- x[e].m(..), the object stays -/
@[simp] noncomputable def eBxM (i : Nat) (f : FE) (g : GM) (t : FA) (r : Env) : Option Dt := (boxD true i f r).bind fun xs => (t r).bind fun ds => (gAll fun a => g a xs ds).bind okD
theorem dBxM {pl : Sem Bool} (SK : StK X.K) (A : AvMR X.prog X.w X.K X.mg X.base m ps k g) (hr : Room k X.A) (hx : PE X (.Name x p) (tVar i)) (he : PE X e (tD X.K f)) (hm : stN.contains m = false) (ha : PA X (e1 :: es) (tDA X.K t)) (hs : PlainIx e := by exact fun _ _ => rfl)
    (hst : starEach (e1 :: es) X.env = (false, eval e1 X.env) :: starEach es X.env := by rfl) (hpl : (backTo pos (starEach es X.env)).any (·.1) = false := by rfl)
    (ht : eval (.Call (.Attribute (.Subscript (.Name x p) e q1) m apos) (e1 :: es) [] pos) X.env = (do
      let ov ← eval (.Subscript (.Name x p) e q1) X.env
      standAt apos.atName
      let (f, first) ← holding [ov] (getMethod ov m pl)
      callWith pos f first (backTo pos (starEach (e1 :: es) X.env)) (backToKw pos (keywordEach [] X.env))) := by rfl) :
    PE X (.Call (.Attribute (.Subscript (.Name x p) e q1) m apos) (e1 :: es) [] pos) (tD X.K (eBxM i f g t)) := by
  obtain ⟨fa, fd, M, F, b⟩ := A
  refine (pe_meth (pl := pl) (pe_box (k := true) hx he hs) SK.cls M F hr b .nil no_pass ha hst hpl ht).imp fun σ H Q ⟨O0, O, r, d, R, ee, q⟩ => ?_
  unfold eBxM at ee
  obtain ⟨xs, ex, ee⟩ := Option.bind_eq_some_iff.mp ee
  obtain ⟨ds, ed, ee⟩ := Option.bind_eq_some_iff.mp ee
  obtain ⟨z, ez, ee⟩ := Option.bind_eq_some_iff.mp ee
  unfold boxD at ex
  split at ex
  · rename_i k' xss hi
    split at ex
    · rename_i hk
      subst hk
      obtain ⟨y, ey, ex⟩ := Option.bind_eq_some_iff.mp ex
      refine ⟨O0, O, r, xss, y, xs, R, hi, ey, ex, fun a ws H1 s1 z1 z2 z3 z4 z5 _ => ?_⟩
      obtain ⟨h3, dx, h4⟩ := id z3
      refine ⟨a, dx, _, rfl, h4, stN_no hm h3, O0, O, r, ds, R.mn s1, ed, fun vs H2 s2 ra => ?_⟩
      simp only [List.append_nil]
      refine ⟨a, ws, vs, O, xs, ds, z, rfl, z1, z3.mn s2, (R.trk.mn s1).mn s2, z4.mn (hide_same s2), ra, gAll_at ez a, fun d' hd v H' s3 rv => ?_, fun c hc => ?_⟩
      · subst hd
        cases ee
        exact q v H' ((s1.trans s2).trans s3) rv
      · subst hc
        cases ee
    · cases ex
  · cases ex
/-! ### f(strolls[e1], owns[e2], ..) -/
/-- a def over an object and a list that stay -/
def AvFR (P : Program) (w : World) (K : PySem.W.Frag) (mg : Str → Option Value) (base : Heap) (x : Str) (ps : List Str) (k : Nat) (g : GM) : Prop :=
  ∃ (fa : Addr) (fd : FuncData), FnOk P w K mg base (L2.CX P w) k fa fd ps (spMR K mg g) ∧ mg x = some (.ref fa) ∧ PySem.W.keepIn K (.ref fa) = true ∧ Binds K fd ps []
@[simp] noncomputable def eBxF (i1 i2 : Nat) (f1 f2 : FE) (g : GM) (t : FA) (r : Env) : Option Dt := (boxD true i1 f1 r).bind fun xs => (boxD false i2 f2 r).bind fun ys => (t r).bind fun ds => (gAll fun a => g a xs (.list ys :: ds)).bind fun z => (okD z).bind fun d => if flatD d then some d else none
theorem box_get {k : Bool} {i : Nat} {f : FE} {r : Env} {xs : List Dt} (h : boxD k i f r = some xs) : ∃ xss d, r[i]? = some (some (.bxs k xss)) ∧ f r = some d ∧ nthB xss d = some xs := by
  unfold boxD at h
  split at h
  · rename_i k' xss hi
    split at h
    · rename_i hk
      subst hk
      obtain ⟨d, h1, h2⟩ := Option.bind_eq_some_iff.mp h
      exact ⟨xss, d, hi, h1, h2⟩
    · cases h
  · cases h
/-- the two boxes are two -/
theorem box_two {K : PySem.W.Frag} {O0 O : List Addr} {σ : L2.St} {H : Hp} {r : Env} {i1 i2 : Nat} {xss yss : List (List Dt)} {a b : Addr} (R : RepE K O0 O σ H r) (h1 : r[i1]? = some (some (.bxs true xss))) (h2 : r[i2]? = some (some (.bxs false yss)))
    (f1 : Fp σ H i1 (.bxs true xss) a) (f2 : Fp σ H i2 (.bxs false yss) b) : a ≠ b := fun z => by
  subst z
  refine R.bx.sep i1 i2 _ _ a (fun e => ?_) h1 h2 rfl f1 f2
  subst e
  rw [h1] at h2
  cases h2
theorem dBxF (A : AvFR X.prog X.w X.K X.mg X.base x ps k g) (hr : Room k X.A) (hg : Gl X x) (hx1 : PE X (.Name x1 p1) (tVar i1)) (he1 : PE X e1 (tD X.K f1)) (hx2 : PE X (.Name x2 p2) (tVar i2)) (he2 : PE X e2 (tD X.K f2)) (ha : PA X es (tDA X.K t))
    (hs1 : PlainIx e1 := by exact fun _ _ => rfl) (hs2 : PlainIx e2 := by exact fun _ _ => rfl) (hdb : (x == ("__debug__" : Str)) = false := by decide)
    (he : starEach (.Subscript (.Name x1 p1) e1 q1 :: .Subscript (.Name x2 p2) e2 q2 :: es) X.env = (false, eval (.Subscript (.Name x1 p1) e1 q1) X.env) :: starEach (.Subscript (.Name x2 p2) e2 q2 :: es) X.env := by rfl)
    (he' : starEach (.Subscript (.Name x2 p2) e2 q2 :: es) X.env = (false, eval (.Subscript (.Name x2 p2) e2 q2) X.env) :: starEach es X.env := by rfl)
    (hpl : (backTo pos (starEach (.Subscript (.Name x2 p2) e2 q2 :: es) X.env)).any (·.1) = false := by rfl) :
    PE X (.Call (.Name x p) (.Subscript (.Name x1 p1) e1 q1 :: .Subscript (.Name x2 p2) e2 q2 :: es) [] pos) (tD X.K (eBxF i1 i2 f1 f2 g t)) := by
  obtain ⟨fa, fd, F, gl, kp, bd⟩ := A
  refine (pe_callS (E := fun _ _ _ _ => False) F hr hg gl kp bd (fun σ pins H s e s' I h => no_pass pins σ H s e s' I h) (pa_cons (pe_box (k := true) hx1 he1 hs1) (pa_cons (pe_box (k := false) hx2 he2 hs2) ha he') he) hdb he hpl).imp fun σ H Q ⟨O0, O, r, d, R, ee, q⟩ => ?_
  unfold eBxF at ee
  obtain ⟨xs, ex, ee⟩ := Option.bind_eq_some_iff.mp ee
  obtain ⟨ys, ey, ee⟩ := Option.bind_eq_some_iff.mp ee
  obtain ⟨ds, ed, ee⟩ := Option.bind_eq_some_iff.mp ee
  obtain ⟨z, ez, ee⟩ := Option.bind_eq_some_iff.mp ee
  obtain ⟨d', hd', ee⟩ := Option.bind_eq_some_iff.mp ee
  split at ee
  · rename_i hf
    cases ee
    obtain ⟨xss, dx, hx, gx, nx⟩ := box_get ex
    obtain ⟨yss, dy, hy, gy, ny⟩ := box_get ey
    refine ⟨O0, O, r, xss, dx, xs, R, hx, gx, nx, fun a ws H1 s1 a1 a2 a3 a4 a5 _ => ⟨O0, O, r, yss, dy, ys, R.mn s1, hy, gy, ny, fun b us H2 s2 b1 b2 b3 b4 b5 _ => ⟨O0, O, r, ds, (R.mn s1).mn s2, ed, fun vs H3 s3 ra => ?_⟩⟩⟩
    have R3 := ((R.mn s1).mn s2).mn s3
    have a5' : Fp σ H3 i1 (.bxs true xss) a := by
      rcases (show _ ∨ _ from a5) with w | ⟨p0, as0, w1, w2, w3⟩
      · exact .inl w
      · exact .inr ⟨p0, as0, w1, s3 _ _ (s2 _ _ w2), w3⟩
    have b5' : Fp σ H3 i2 (.bxs false yss) b := by
      rcases (show _ ∨ _ from b5) with w | ⟨p0, as0, w1, w2, w3⟩
      · exact .inl w
      · exact .inr ⟨p0, as0, w1, s3 _ _ w2, w3⟩
    have ab := box_two R3 hx hy a5' b5'
    have sub : ∀ c ∈ O.filter (fun c => decide (c ≠ b)), c ∈ O := fun c h => (List.mem_filter.mp h).1
    have hb3 : H3 b = some (.lst us) := s3 _ _ b3
    refine ⟨a, ws, .ref b :: vs, O.filter (fun c => decide (c ≠ b)), xs, .list ys :: ds, z, rfl, List.mem_filter.mpr ⟨a1, by simpa using ab⟩, (a3.mn s2).mn s3, fun c h => R3.trk c (sub c h), ((a4.mn (hide_same s2)).mn (hide_same s3)).mn (hide_less sub), .cons (.lst (Rd.of (hide_in (by simp) hb3)) ((b4.mn (hide_same s3)).mn (hide_less sub))) (ra.mn (hide_less sub)), gAll_at ez a, fun d2 hd2 v H' s4 rv => ?_, fun c hc => ?_⟩
    · subst hd2
      cases hd'
      exact q v H' (((s1.trans s2).trans s3).trans s4) (rp_flat hf rv)
    · subst hc
      cases hd'
  · cases ee
end
end BL

set_option Elab.async false
set_option linter.all false
set_option maxRecDepth 100000
/-! Defs over an object that make lambdas. -/
namespace BL
open PySem PySem.Spec PyProof.Rows L2 LamX
def spMT (K : PySem.W.Frag) (T : List (Addr × Str)) (g : Nat → List Dt → List Dt → Option Dt) : Sp := fun vs H Q _ => ∃ s ws vs' O xs ds z, vs = .ref s :: vs' ∧ s ∈ O ∧ HoIs K H s true ws ∧ Trk O H ∧ IT T O H ∧ RpAll K (hide O H) ws xs ∧ RpAll K (hide O H) vs' ds ∧ g s xs ds = some z ∧
  ∀ v H', ExtN H H' → Tabs T H' → Rp K (hide O H') v z → Q v H'
def runMT (F : FS) (n p : Nat) (a : Nat) (xs ds : List Dt) : Option Dt := if ds.length + 1 = p then (F (startB n false [(true, a, xs)] ds)).bind outL else none
def AvMT (P : Program) (w : World) (K : PySem.W.Frag) (T : List (Addr × Str)) (mg : Str → Option Value) (base : Heap) (x : Str) (ps : List Str) (k : Nat) (g : Nat → List Dt → List Dt → Option Dt) : Prop :=
  ∃ (fa : Addr) (fd : FuncData), FnOk P w K mg base CX0 k fa fd ps (spMT K T g) ∧ mg x = some (.ref fa) ∧ PySem.W.keepIn K (.ref fa) = true ∧ Binds K fd ps []
section
variable {P : Program} {w : World} {K : PySem.W.Frag} {T : List (Addr × Str)} {mg : Str → Option Value} {base : Heap} {x qual : Str} {params : Arguments} {body : List Stmt} {scope : Scope} {f : Addr} {fd : FuncData} {N ps : List Str} {k n p : Nat} {F : FS}
theorem fn_mT (Fn : FunD K x qual params body scope [] [] f fd) (S : FnScope N ps scope) (hn : N.length = n) (hp : ps.length = p)
    (hb : ∀ (cdv : Value) (A : Around) (outer : List PySem.Env) (s : Shared) (H : Hp) (E : XK), fd.code = cdv → Room k (A.deeper (envOfC qual scope s.heap.objs.size f cdv)) → PSs (cxOf CX0 P w K mg base N qual scope f cdv A outer s H E).nox body (tsL K T F)) :
    FnOk P w K mg base CX0 (k + 1) f fd ps (spMT K T (runMT F n p)) := by
  subst hn hp
  obtain ⟨oc, od, dV, kV, doc, pm, an, cdv, ct, osl, rfl, lk, hcd, _, _⟩ := Fn.ex
  refine fn_of lk hcd S (fun vs H Q E h => ?_) (fun A outer s0 H vs Q E hr h => ⟨_, (hb cdv A outer s0 H E rfl hr).nox, ?_⟩)
  · obtain ⟨s, ws, vs', O, xs, ds, z, rfl, _, _, _, _, _, ra, e, _⟩ := h
    unfold runMT at e
    split at e
    · rename_i hd
      rw [List.length_cons, ra.length]
      exact hd
    · cases e
  · obtain ⟨s, ws, vs', O, xs, ds, z, rfl, hs, hw, t, it, rx, ra, e, q⟩ := h
    unfold runMT at e
    split at e
    · obtain ⟨o, eo, e⟩ := Option.bind_eq_some_iff.mp e
      refine ⟨O, O, _, o, rep_startB (b := false) (bs := [(true, s, xs)]) t ra (by simp) (fun x hx => ?_) (fun _ h => h) (fun _ h => .inl h), it, eo, ?_⟩
      · cases List.mem_singleton.mp hx
        exact ⟨hs, fun z => (by cases z), ws, hw, rx⟩
      · cases o with
        | rt d => cases e; exact fun O' v H' L rv tb => q v H' (fun b o' h' n => L.keep b o' (fun z => z) h' n) tb rv
        | nx r => cases e
        | bk r => cases e
        | ct r => cases e
        | exc c => cases e
        | rl xs => cases e
    · cases e
end
@[simp] noncomputable def eBxT (i1 i2 : Nat) (f1 f2 : FE) (g : Nat → List Dt → List Dt → Option Dt) (t : FA) (r : Env) : Option Dt := (boxD true i1 f1 r).bind fun xs => (boxD false i2 f2 r).bind fun ys => (t r).bind fun ds => (gAll fun a => g a xs (.list ys :: ds)).bind fun d => if flatD d then some d else none
section
variable {X : Cx} {T : List (Addr × Str)} {e a b e1 e2 : Expr} {es : List Expr} {f f1 f2 g' : FE} {t : FA} {i1 i2 k : Nat} {ps : List Str} {g : Nat → List Dt → List Dt → Option Dt} {x x1 x2 : Str} {p p1 p2 pos q1 q2 : Pos}
theorem dBxT (A : AvMT X.prog X.w X.K T X.mg X.base x ps k g) (hr : Room k X.A) (hg : Gl X x) (hx1 : PE X (.Name x1 p1) (tVar i1)) (he1 : PE X e1 (tD X.K f1)) (hx2 : PE X (.Name x2 p2) (tVar i2)) (he2 : PE X e2 (tD X.K f2)) (ha : PA X es (tDA X.K t))
    (hs1 : PlainIx e1 := by exact fun _ _ => rfl) (hs2 : PlainIx e2 := by exact fun _ _ => rfl) (hdb : (x == ("__debug__" : Str)) = false := by decide)
    (he : starEach (.Subscript (.Name x1 p1) e1 q1 :: .Subscript (.Name x2 p2) e2 q2 :: es) X.env = (false, eval (.Subscript (.Name x1 p1) e1 q1) X.env) :: starEach (.Subscript (.Name x2 p2) e2 q2 :: es) X.env := by rfl)
    (he' : starEach (.Subscript (.Name x2 p2) e2 q2 :: es) X.env = (false, eval (.Subscript (.Name x2 p2) e2 q2) X.env) :: starEach es X.env := by rfl)
    (hpl : (backTo pos (starEach (.Subscript (.Name x2 p2) e2 q2 :: es) X.env)).any (·.1) = false := by rfl) :
    PE X (.Call (.Name x p) (.Subscript (.Name x1 p1) e1 q1 :: .Subscript (.Name x2 p2) e2 q2 :: es) [] pos) (tEL X.K T (eBxT i1 i2 f1 f2 g t)) := by
  obtain ⟨fa, fd, F, gl, kp, bd⟩ := A
  refine (pe_call F hr hg gl kp bd .nil pass0 (pa_cons (pe_box (k := true) hx1 he1 hs1) (pa_cons (pe_box (k := false) hx2 he2 hs2) ha he') he) hdb he hpl).imp fun σ H Q ⟨O0, O, r, d, R, it, ee, q⟩ => ?_
  unfold eBxT at ee
  obtain ⟨xs, ex, ee⟩ := Option.bind_eq_some_iff.mp ee
  obtain ⟨ys, ey, ee⟩ := Option.bind_eq_some_iff.mp ee
  obtain ⟨ds, ed, ee⟩ := Option.bind_eq_some_iff.mp ee
  obtain ⟨z, ez, ee⟩ := Option.bind_eq_some_iff.mp ee
  split at ee
  · rename_i hf
    cases ee
    obtain ⟨xss, dx, hx, gx, nx⟩ := box_get ex
    obtain ⟨yss, dy, hy, gy, ny⟩ := box_get ey
    refine ⟨O0, O, r, xss, dx, xs, R, hx, gx, nx, fun a ws H1 s1 a1 a2 a3 a4 a5 _ => ⟨O0, O, r, yss, dy, ys, R.mn s1, hy, gy, ny, fun b us H2 s2 b1 b2 b3 b4 b5 _ => ⟨O0, O, r, ds, (R.mn s1).mn s2, ed, fun vs H3 s3 ra => ?_⟩⟩⟩
    show spMT X.K T g ((.ref a :: .ref b :: vs) ++ []) H3 Q E0
    rw [List.append_nil]
    have R3 := ((R.mn s1).mn s2).mn s3
    have s13 := (s1.trans s2).trans s3
    have it3 := it.ext R.trk0 (same_ext s13) (it.tabs.ext s13)
    have a5' : Fp σ H3 i1 (.bxs true xss) a := by
      rcases (show _ ∨ _ from a5) with w | ⟨p0, as0, w1, w2, w3⟩
      · exact .inl w
      · exact .inr ⟨p0, as0, w1, s3 _ _ (s2 _ _ w2), w3⟩
    have b5' : Fp σ H3 i2 (.bxs false yss) b := by
      rcases (show _ ∨ _ from b5) with w | ⟨p0, as0, w1, w2, w3⟩
      · exact .inl w
      · exact .inr ⟨p0, as0, w1, s3 _ _ w2, w3⟩
    have ab := box_two R3 hx hy a5' b5'
    have sub : ∀ c ∈ O.filter (fun c => decide (c ≠ b)), c ∈ O := fun c h => (List.mem_filter.mp h).1
    have hb3 : H3 b = some (.lst us) := s3 _ _ b3
    have itw := IT.wide R3 it3
    have it4 : IT T (O.filter (fun c => decide (c ≠ b))) H3 := by
      refine ⟨fun p hp => List.mem_filter.mpr ⟨itw.hid p hp, ?_⟩, itw.tabs, fun p hp ps h => itw.all p (sub p hp) ps h⟩
      obtain ⟨ps, h1, _⟩ := itw.tabs p hp
      have : p.1 ≠ b := fun z => by rw [z, hb3] at h1; cases h1
      simpa using this
    exact ⟨a, ws, .ref b :: vs, O.filter (fun c => decide (c ≠ b)), xs, .list ys :: ds, _, rfl, List.mem_filter.mpr ⟨a1, by simpa using ab⟩, (a3.mn s2).mn s3, fun c h => R3.trk c (sub c h), it4, ((a4.mn (hide_same s2)).mn (hide_same s3)).mn (hide_less sub), .cons (.lst (Rd.of (hide_in (by simp) hb3)) ((b4.mn (hide_same s3)).mn (hide_less sub))) (ra.mn (hide_less sub)), gAll_at ez a, fun v H' x4 tb rv => q v H' ((same_ext s13).trans x4) tb (rp_flat hf rv)⟩
  · cases ee
/-- a comparison, the left side makes lambdas -/
theorem eCmpL {op : CmpOp} {o : Dt → Dt → Option Dt} (ho : OpR X (compareOp op) (rD X.K o)) (ha : PE X a (tEL X.K T f)) (hb : PE X b (tD X.K g')) (hm : behindInMarks op b = false) : PE X (.Compare a [op] [b] pos) (tEL X.K T (eOp o f g')) :=
  (pe_cmpR ho ha hb hm).imp fun σ H Q ⟨O0, O, r, d, R, t, e, q⟩ => by
    unfold eOp at e
    obtain ⟨x, ex, e⟩ := Option.bind_eq_some_iff.mp e
    obtain ⟨y, ey, e⟩ := Option.bind_eq_some_iff.mp e
    refine ⟨O0, O, r, x, R, t, ex, fun v H1 x1 tb r1 => ?_⟩
    have R1 := R.ext t x1 tb
    refine ⟨O0, O, r, y, R1, ey, fun w H2 s2 r2 => ⟨O, x, y, _, R1.trk.mn s2, r1.mn (hide_same s2), r2, e, fun z H3 s3 r3 => ?_⟩⟩
    exact q z H3 (x1.trans (same_ext (s2.trans s3))) ((tb.ext s2).ext s3) r3
/-- a test by a value that makes lambdas -/
theorem tValL (h : PE X a (tEL X.K T f)) (he : ∀ whole, isTrue a X.env whole = (do let v ← whole; standAt a.pos; holding [v] (truthy v)) := by intro _; rfl) : PT X a (tTL X.K T f) :=
  (pt_val h he).imp fun σ H Q ⟨O0, O, r, b, R, t, e, q⟩ => ⟨O0, O, r, _, R, t, e, fun v H' x1 tb rv => ⟨b, rp_bl rv, q H' x1 tb⟩⟩
theorem tNotL (ha : PT X a (tTL X.K T f)) : PT X (.UnaryOp .Not a pos) (tTL X.K T (eNot f)) := (pt_not ha).imp fun σ H Q ⟨O0, O, r, d, R, t, e, q⟩ => by
  unfold eNot at e
  obtain ⟨x, ex, e⟩ := Option.bind_eq_some_iff.mp e
  obtain ⟨k, ek, e⟩ := Option.bind_eq_some_iff.mp e
  have := toB_eq ek; subst this
  cases e
  exact ⟨O0, O, r, k, R, t, ex, fun H1 x1 tb => q H1 x1 tb⟩
end
end BL

set_option Elab.async false
set_option linter.all false
set_option maxRecDepth 100000
/-! A def that changes an object and a list. -/
namespace BL
open PySem PySem.Spec PyProof.Rows L2 LamX
inductive SOutB where
  | nx (r : Env) | rt (x : Dt) (r : Env)
abbrev FB := Env → Option SOutB
def PostB (K : PySem.W.Frag) (O0 : List Addr) (D : Ends) (O : List Addr) (H : Hp) : SOutB → Prop
  | .nx r => ∀ O' σ' H', Later O0 O H O' H' → RepE K O0 O' σ' H' r → D.nx σ' H'
  | .rt d r => ∀ O' σ' v H', Later O0 O H O' H' → RepE K O0 O' σ' H' r → Rp K (hide O' H') v d → D.rt v H'
theorem PostB.later {K : PySem.W.Frag} {O0 : List Addr} {D : Ends} {O O' : List Addr} {H H' : Hp} (L : Later O0 O H O' H') : ∀ {o : SOutB}, PostB K O0 D O H o → PostB K O0 D O' H' o
  | .nx r, q => fun O2 σ2 H2 L2 R => q O2 σ2 H2 (L.trans L2) R
  | .rt d r, q => fun O2 σ2 v H2 L2 R rv => q O2 σ2 v H2 (L.trans L2) R rv
def tsB (K : PySem.W.Frag) (F : FB) : TS := fun D σ H => ∃ O0 O r o, RepE K O0 O σ H r ∧ F r = some o ∧ PostB K O0 D O H o
@[simp] def bPure (F : FS) (r : Env) : Option SOutB := (F r).bind fun o => match o with
  | .nx r1 => some (.nx r1)
  | _ => none
@[simp] def bSeq (a b : FB) (r : Env) : Option SOutB := (a r).bind fun o => match o with
  | .nx r1 => b r1
  | o => some o
@[simp] def bIf (t : FE) (a b : FB) (r : Env) : Option SOutB := (t r).bind fun x => (toB x).bind fun k => if k = true then a r else b r
@[simp] def bNext (r : Env) : Option SOutB := some (.nx r)
@[simp] def bRetM (m : FM) (r : Env) : Option SOutB := (m r).bind fun x => some (.rt x.1 x.2)
@[simp] def mIsNone (m : FM) (r : Env) : Option (Dt × Env) := (m r).bind fun x => match x.1 with
  | .none => some (.bool true, x.2)
  | _ => none
section
variable {X : Cx} {st : Stmt} {rest body : List Stmt} {F : FS} {A B : FB} {f : FE} {m : FM} {e c : Expr} {pos : Pos}
theorem bLift (h : PS X st (tsD X.K F)) : PS X st (tsB X.K (bPure F)) := h.imp fun D σ H ⟨O0, O, r, o, R, e, q⟩ => by
  unfold bPure at e
  obtain ⟨o1, e1, e⟩ := Option.bind_eq_some_iff.mp e
  refine ⟨O0, O, r, o1, R, e1, ?_⟩
  cases o1 with
  | nx r1 => cases e; exact q
  | _ => cases e
theorem bOne (h : PS X st (tsB X.K A)) : PSs X [st] (tsB X.K A) := pss_one h
theorem bNil : PSs X [] (tsB X.K bNext) := pss_nil.imp fun D σ H ⟨O0, O, r, o, R, e, q⟩ => by
  cases e
  exact q O σ H (Later.refl _ O H) R
theorem bCons (h1 : PS X st (tsB X.K A)) (h2 : PSs X rest (tsB X.K B)) : PSs X (st :: rest) (tsB X.K (bSeq A B)) := (pss_cons h1 h2).imp fun D σ H ⟨O0, O, r, o, R, e, q⟩ => by
  unfold bSeq at e
  obtain ⟨o1, e1, e⟩ := Option.bind_eq_some_iff.mp e
  refine ⟨O0, O, r, o1, R, e1, ?_⟩
  cases o1 with
  | nx r1 => exact fun O' σ' H' L R' => ⟨O0, O', r1, o, R', e, q.later L⟩
  | rt d r1 => cases e; exact q
theorem bIf_ {a b : List Stmt} (hc : PT X c (tDT X.K f)) (ha : PSs X a (tsB X.K A)) (hb : PSs X b (tsB X.K B)) : PS X (.If c a b pos) (tsB X.K (bIf f A B)) := (ps_if hc ha hb).imp fun D σ H ⟨O0, O, r, o, R, ee, q⟩ => by
  unfold bIf at ee
  obtain ⟨x, ex, ee⟩ := Option.bind_eq_some_iff.mp ee
  obtain ⟨k, ek, ee⟩ := Option.bind_eq_some_iff.mp ee
  have := toB_eq ek; subst this
  refine ⟨O0, O, r, k, R, ex, fun H1 s1 => ?_⟩
  cases k with
  | true => exact ⟨O0, O, r, o, R.mn s1, ee, q.later (Later.same s1)⟩
  | false => exact ⟨O0, O, r, o, R.mn s1, ee, q.later (Later.same s1)⟩
theorem bRetM_ (he : PE X e (tM X.K m)) : PS X (.Return (some e) pos) (tsB X.K (bRetM m)) := (ps_ret he).imp fun D σ H ⟨O0, O, r, o, R, ee, q⟩ => by
  unfold bRetM at ee
  obtain ⟨x, ex, ee⟩ := Option.bind_eq_some_iff.mp ee
  cases ee
  exact ⟨O0, O, r, x.1, x.2, R, ex, fun v O' H' L R' rv => q O' σ v H' L R' rv⟩
theorem dIsNoneM {j : Nat} {p2 : Pos} (he : PE X e (tM X.K m)) : PE X (.Compare e [.Is] [.Constant .none j p2] pos) (tM X.K (mIsNone m)) := (pe_cmpR op_isN he pe_non (by rfl)).imp fun σ H Q ⟨O0, O, r, d, r', R, ee, q⟩ => by
  unfold mIsNone at ee
  obtain ⟨x, ex, ee⟩ := Option.bind_eq_some_iff.mp ee
  obtain ⟨x1, x2⟩ := x
  dsimp only at ee
  split at ee
  · cases ee
    refine ⟨O0, O, r, _, _, R, ex, fun v O' H' L R' rv => ?_⟩
    cases rv
    exact ⟨rfl, q _ O' H' L R' (.bl true)⟩
  · cases ee
/-! own[i], own[i] = e of a list that was handed in -/
@[simp] def eBoxIx (i : Nat) (a : FE) (r : Env) : Option Dt := match r[i]? with
  | some (some (.obj _ false _ xs)) => (a r).bind fun y => oIx (.list xs) y
  | _ => none
theorem dBoxIx {i : Nat} {x : Str} {p : Pos} {g : FE} (hx : PE X (.Name x p) (tVar i)) (hb : PE X e (tD X.K g)) (hs : PlainIx e := by exact fun _ _ => rfl) : PE X (.Subscript (.Name x p) e pos) (tD X.K (eBoxIx i g)) :=
  (pe_ix ix_list hx hb hs).imp fun σ H Q ⟨O0, O, r, d, R, ee, q⟩ => by
    unfold eBoxIx at ee
    split at ee
    · rename_i b a xs hi
      obtain ⟨y, ey, ee⟩ := Option.bind_eq_some_iff.mp ee
      unfold oIx at ee
      split at ee
      · rename_i zs j hz
        cases hz
        obtain ⟨ws, h1, h2, h3, h4, h5⟩ := R.bx.obj i _ _ _ _ hi
        refine ⟨_, h1, O0, O, r, _, R, ey, fun w H1 s1 rw' => ?_⟩
        obtain ⟨u, hu, ru⟩ := atD_V h5 ee
        rw [rp_int rw']
        exact ⟨_, _, _, u, rfl, rfl, .inl (.of (s1 _ _ h4)), hu, q u H1 s1 (ru.mn (hide_same s1))⟩
      · rename_i hz
        cases hz
      · cases ee
    · cases ee
@[simp] def sPutBox (i : Nat) (fi fe : FE) (r : Env) : Option SOut := (fe r).bind fun x => match r[i]? with
  | some (some (.obj true false a xs)) => (fi r).bind fun y => match y with
    | .int j => if decide (0 ≤ j) && decide (j < xs.length) then some (.nx (r.set i (some (.obj true false a (xs.set j.toNat x))))) else none
    | _ => none
  | _ => none
theorem zPutBox {i : Nat} {x : Str} {p p3 : Pos} {ie : Expr} {fi : FE} (he : PE X e (tD X.K f)) (hx : PE X (.Name x p) (tVar i)) (hi : PE X ie (tD X.K fi)) (hs : swapsWithSole [.Subscript (.Name x p) ie p3] e pos.line X.env = pure false := by rfl)
    (hw : swappedStores [.Subscript (.Name x p) ie p3] e X.env = pure none := by rfl)
    (ha : ∀ v, assign (.Subscript (.Name x p) ie p3) X.env v = (do
      let objV ← holding [v] (eval (.Name x p) X.env); let ixV ← holding [v, objV] (eval ie X.env)
      standAt p3; holding [v, objV, ixV] (setItem objV ixV v)
      release [v, objV, ixV] []) := by intro _; rfl)
    (h1 : (assignEach [.Subscript (.Name x p) ie p3] X.env).map (·.2) = [assign (.Subscript (.Name x p) ie p3) X.env] := by rfl) :
    PS X (.Assign [.Subscript (.Name x p) ie p3] e pos) (tsD X.K (sPutBox i fi f)) :=
  (ps_asg he (pg_sub hx hi set_list ha) hs hw h1).imp fun D σ H ⟨O0, O, r, o, R, ee, q⟩ => by
    unfold sPutBox at ee
    obtain ⟨d, ed, ee⟩ := Option.bind_eq_some_iff.mp ee
    split at ee
    · rename_i a xs hi'
      obtain ⟨y, ey, ee⟩ := Option.bind_eq_some_iff.mp ee
      split at ee
      · rename_i j
        split at ee
        · rename_i hz
          cases ee
          rw [Bool.and_eq_true, decide_eq_true_eq, decide_eq_true_eq] at hz
          refine ⟨O0, O, r, d, R, ed, fun v H1 s1 rv => ?_⟩
          obtain ⟨ws, h1, h2, h3, h4, h5⟩ := R.bx.obj i _ _ _ _ hi'
          have R1 := R.mn s1
          refine ⟨_, h1, O0, O, r, _, R1, ey, fun iv H2 s2 ri => ?_⟩
          have s12 := s1.trans s2
          have hl := h5.length
          have h5' := h5.mn (hide_same (O := O) s12)
          have h4' : H2 a = some (.lst ws) := s12 _ _ h4
          refine ⟨a, ws, j, j.toNat, rfl, rp_int ri, h4', ?_, ?_⟩
          · unfold ixN
            rw [if_pos hz.1, if_pos (by omega)]
          · exact q O σ _ ((Later.same s12).trans (later_upd h2 (h3 rfl) ⟨_, h4'⟩)) ((R.mn s12).upBox hi' upd_same (RpAll.put (rv.mn (hide_same s2)) j.toNat h5'))
        · cases ee
      · cases ee
    · cases ee
end
/-! ### the promise -/
abbrev GB := Nat → Nat → List Dt → List Dt → List Dt → Option (Dt × List Dt × List Dt)
def spBW (K : PySem.W.Frag) (g : GB) : Sp := fun vs H Q _ => ∃ s o ws us vs' O xs ys ds d xs' ys', vs = .ref s :: .ref o :: vs' ∧ s ∈ O ∧ o ∈ O ∧ s ≠ o ∧ HoIs K H s true ws ∧ HoIs K H o false us ∧ Trk O H ∧ RpAll K (hide O H) ws xs ∧ RpAll K (hide O H) us ys ∧ RpAll K (hide O H) vs' ds ∧ g s o xs ys ds = some (d, xs', ys') ∧
  ∀ v H' ws' us', (∀ b u, b ≠ s → b ≠ o → H b = some u → H' b = some u) → HoIs K H' s true ws' → HoIs K H' o false us' → RpAll K (hide O H') ws' xs' → RpAll K (hide O H') us' ys' → Rp K (hide O H') v d → Q v H'
def runBW (F : FB) (n p : Nat) (s o : Nat) (xs ys ds : List Dt) : Option (Dt × List Dt × List Dt) := if ds.length + 2 = p then (F (startB n true [(true, s, xs), (false, o, ys)] ds)).bind fun z => match z with
  | .rt d r => (objAt 0 s true r).bind fun xs' => (objAt 1 o false r).bind fun ys' => some (d, xs', ys')
  | _ => none else none
theorem objAt_some {i a : Nat} {k : Bool} {r : Env} {xs : List Dt} (h : objAt i a k r = some xs) : ∃ b, r[i]? = some (some (.obj b k a xs)) := by
  unfold objAt at h
  split at h
  · rename_i b k' a' xs' hi
    split at h
    · rename_i hh
      obtain ⟨rfl, rfl⟩ := hh
      cases h
      exact ⟨b, hi⟩
    · cases h
  · cases h
def AvBW (P : Program) (w : World) (K : PySem.W.Frag) (mg : Str → Option Value) (base : Heap) (x : Str) (ps : List Str) (k : Nat) (g : GB) : Prop :=
  ∃ (fa : Addr) (fd : FuncData), FnOk P w K mg base CX0 k fa fd ps (spBW K g) ∧ mg x = some (.ref fa) ∧ PySem.W.keepIn K (.ref fa) = true ∧ Binds K fd ps []
section
variable {P : Program} {w : World} {K : PySem.W.Frag} {mg : Str → Option Value} {base : Heap} {x qual : Str} {params : Arguments} {body : List Stmt} {scope : Scope} {f : Addr} {fd : FuncData} {N ps : List Str} {k n p : Nat} {F : FB}
theorem fn_bW (Fn : FunD K x qual params body scope [] [] f fd) (S : FnScope N ps scope) (hn : N.length = n) (hp : ps.length = p)
    (hb : ∀ (cdv : Value) (A : Around) (outer : List PySem.Env) (s : Shared) (H : Hp) (E : XK), Room k (A.deeper (envOfC qual scope s.heap.objs.size f cdv)) → PSs (cxOf CX0 P w K mg base N qual scope f cdv A outer s H E).nox body (tsB K F)) :
    FnOk P w K mg base CX0 (k + 1) f fd ps (spBW K (runBW F n p)) := by
  subst hn hp
  refine Fn.ok S (fun vs H Q E h => ?_) (fun cdv A outer s0 H vs Q E hr h => ⟨_, (hb cdv A outer s0 H E hr).nox, ?_⟩)
  · obtain ⟨s, o, ws, us, vs', O, xs, ys, ds, d, xs', ys', rfl, _, _, _, _, _, _, _, _, ra, e, _⟩ := h
    unfold runBW at e
    split at e
    · rename_i hd
      rw [List.length_cons, List.length_cons, ra.length]
      exact hd
    · cases e
  · obtain ⟨s, o, ws, us, vs', O, xs, ys, ds, d, xs', ys', rfl, hs, ho, hso, hw, hu, t, rx, ry, ra, e, q⟩ := h
    unfold runBW at e
    split at e
    · obtain ⟨z, ez, e⟩ := Option.bind_eq_some_iff.mp e
      refine ⟨O.filter (fun b => decide (b ≠ s ∧ b ≠ o)), O, _, z, rep_startB (b := true) (bs := [(true, s, xs), (false, o, ys)]) t ra (by simpa using hso) (fun x hx => ?_) (fun _ h => (List.mem_filter.mp h).1) (fun p0 h => ?_), ez, ?_⟩
      · rcases List.mem_cons.mp hx with rfl | hx
        · exact ⟨hs, fun _ z => (by simp at z), ws, hw, rx⟩
        · cases List.mem_singleton.mp hx
          exact ⟨ho, fun _ z => (by simp at z), us, hu, ry⟩
      · by_cases e1 : p0 = s
        · subst e1; exact .inr hw.pl
        · by_cases e2 : p0 = o
          · subst e2; exact .inr hu.pl
          · exact .inl (List.mem_filter.mpr ⟨h, by simp [e1, e2]⟩)
      · cases z with
        | nx r => cases e
        | rt d' r =>
          obtain ⟨xs2, e1, e⟩ := Option.bind_eq_some_iff.mp e
          obtain ⟨ys2, e2, e⟩ := Option.bind_eq_some_iff.mp e
          cases e
          refine fun O' σ' v H' L R rv => ?_
          obtain ⟨b1, g1⟩ := objAt_some e1
          obtain ⟨b2, g2⟩ := objAt_some e2
          obtain ⟨ws', _, _, _, h4, h5⟩ := R.bx.obj 0 _ _ _ _ g1
          obtain ⟨us', _, _, _, k4, k5⟩ := R.bx.obj 1 _ _ _ _ g2
          exact q v H' ws' us' (fun b u n1 n2 h' => L.keep b u (fun m => List.mem_filter.mpr ⟨m, by simp [n1, n2]⟩) h') h4 k4 (h5.mn (hide_less L.sub)) (k5.mn (hide_less L.sub)) (rv.mn (hide_less L.sub))
    · cases e
end
/-! ### the call, by the law -/
@[simp] noncomputable def mBx (i1 i2 : Nat) (f1 f2 : FE) (g : GB) (t : FA) (r : Env) : Option (Dt × Env) := match r[i1]?, r[i2]? with
  | some (some (.bxs true xss)), some (some (.bxs false yss)) => (f1 r).bind fun x1 => (f2 r).bind fun x2 => (nthB xss x1).bind fun xs => (nthB yss x2).bind fun ys => (t r).bind fun ds => (gAll fun a => gAll fun b => g a b xs ys ds).bind fun z => match x1, x2 with
    | .int j1, .int j2 => some (z.1, (r.set i1 (some (.bxs true (xss.set j1.toNat z.2.1)))).set i2 (some (.bxs false (yss.set j2.toNat z.2.2))))
    | _, _ => none
  | _, _ => none
section
variable {X : Cx} {e1 e2 : Expr} {es : List Expr} {f1 f2 : FE} {t : FA} {i1 i2 k : Nat} {ps : List Str} {g : GB} {x x1 x2 : Str} {p p1 p2 pos q1 q2 : Pos}
theorem dBxW (A : AvBW X.prog X.w X.K X.mg X.base x ps k g) (hr : Room k X.A) (hg : Gl X x) (hx1 : PE X (.Name x1 p1) (tVar i1)) (he1 : PE X e1 (tD X.K f1)) (hx2 : PE X (.Name x2 p2) (tVar i2)) (he2 : PE X e2 (tD X.K f2)) (ha : PA X es (tDA X.K t)) (hne : i1 ≠ i2)
    (hs1 : PlainIx e1 := by exact fun _ _ => rfl) (hs2 : PlainIx e2 := by exact fun _ _ => rfl) (hdb : (x == ("__debug__" : Str)) = false := by decide)
    (he : starEach (.Subscript (.Name x1 p1) e1 q1 :: .Subscript (.Name x2 p2) e2 q2 :: es) X.env = (false, eval (.Subscript (.Name x1 p1) e1 q1) X.env) :: starEach (.Subscript (.Name x2 p2) e2 q2 :: es) X.env := by rfl)
    (he' : starEach (.Subscript (.Name x2 p2) e2 q2 :: es) X.env = (false, eval (.Subscript (.Name x2 p2) e2 q2) X.env) :: starEach es X.env := by rfl)
    (hpl : (backTo pos (starEach (.Subscript (.Name x2 p2) e2 q2 :: es) X.env)).any (·.1) = false := by rfl) :
    PE X (.Call (.Name x p) (.Subscript (.Name x1 p1) e1 q1 :: .Subscript (.Name x2 p2) e2 q2 :: es) [] pos) (tM X.K (mBx i1 i2 f1 f2 g t)) := by
  obtain ⟨fa, fd, F, gl, kp, bd⟩ := A
  refine (pe_call F hr hg gl kp bd .nil pass0 (pa_cons (pe_box (k := true) hx1 he1 hs1) (pa_cons (pe_box (k := false) hx2 he2 hs2) ha he') he) hdb he hpl).imp fun σ H Q ⟨O0, O, r, d, r', R, ee, q⟩ => ?_
  unfold mBx at ee
  split at ee
  · rename_i xss yss hi1 hi2
    obtain ⟨dx, gx, ee⟩ := Option.bind_eq_some_iff.mp ee
    obtain ⟨dy, gy, ee⟩ := Option.bind_eq_some_iff.mp ee
    obtain ⟨xs, nx, ee⟩ := Option.bind_eq_some_iff.mp ee
    obtain ⟨ys, ny, ee⟩ := Option.bind_eq_some_iff.mp ee
    obtain ⟨ds, ed, ee⟩ := Option.bind_eq_some_iff.mp ee
    obtain ⟨z, ez, ee⟩ := Option.bind_eq_some_iff.mp ee
    obtain ⟨z0, z1, z2⟩ := z
    refine ⟨O0, O, r, xss, dx, xs, R, hi1, gx, nx, fun a ws H1 s1 a1 a2 a3 a4 a5 ⟨ja, ⟨pa, as, sa, la, na⟩, ma, ea⟩ => ⟨O0, O, r, yss, dy, ys, R.mn s1, hi2, gy, ny, fun b us H2 s2 b1 b2 b3 b4 b5 ⟨jb, ⟨pb, bs, sb, lb, nb⟩, mb, eb⟩ => ⟨O0, O, r, ds, (R.mn s1).mn s2, ed, fun vs H3 s3 ra => ?_⟩⟩⟩
    subst ea eb
    dsimp only at ee
    cases ee
    show spBW X.K g ((.ref a :: .ref b :: vs) ++ []) H3 Q E0
    rw [List.append_nil]
    have R3 := ((R.mn s1).mn s2).mn s3
    have s13 := (s1.trans s2).trans s3
    have a5' : Fp σ H3 i1 (.bxs true xss) a := .inr ⟨pa, as, sa, s3 _ _ (s2 _ _ la), List.mem_of_getElem? na⟩
    have b5' : Fp σ H3 i2 (.bxs false yss) b := .inr ⟨pb, bs, sb, s3 _ _ lb, List.mem_of_getElem? nb⟩
    have ab := box_two R3 hi1 hi2 a5' b5'
    have a33 := (a3.mn s2).mn s3
    have b33 := b3.mn s3
    refine ⟨a, b, ws, us, vs, O, xs, ys, ds, _, z1, z2, rfl, a1, b1, ab, a33, b33, R3.trk, (a4.mn (hide_same s2)).mn (hide_same s3), b4.mn (hide_same s3), ra, gAll_at (gAll_at ez a) b, fun v H' ws' us' hk ha' hb' rx ry rv => ?_⟩
    obtain ⟨l1, dx1, ha3⟩ := id a33
    have hb3 : H3 b = some (.lst us) := b33
    obtain ⟨l2, dx2, ha4⟩ := id ha'
    have hb4 : H' b = some (.lst us') := hb'
    -- H' as H3 with two things written
    have hh : Same H3 (upd (upd H' a (.ins (StC X.K) dx1 (stN.zip ws))) b (.lst us)) := fun c o hc => by
      by_cases e : c = b
      · subst e
        rw [hb3] at hc
        rw [upd_same]
        exact hc
      · rw [upd_ne e]
        by_cases e' : c = a
        · subst e'
          rw [ha3] at hc
          rw [upd_same]
          exact hc
        · rw [upd_ne e']
          exact hk c o e' e hc
    have R4 := R3.mn hh
    have h4a : (upd (upd H' a (.ins (StC X.K) dx1 (stN.zip ws))) b (.lst us)) pa = some (.lst (as.map V.ref)) := hh _ _ (s3 _ _ (s2 _ _ la))
    have e5 : upd (upd (upd H' a (.ins (StC X.K) dx1 (stN.zip ws))) b (.lst us)) a (.ins (StC X.K) dx2 (stN.zip ws')) = upd H' b (.lst us) := by
      funext c
      by_cases e : c = a
      · subst e; rw [upd_same, upd_ne ab, ha4]
      · rw [upd_ne e]
        by_cases e' : c = b
        · subst e'; rw [upd_same, upd_same]
        · rw [upd_ne e', upd_ne e', upd_ne e]
    have hO1 : hide O (upd (upd H' a (.ins (StC X.K) dx1 (stN.zip ws))) b (.lst us)) = hide O H' := by rw [hide_upd b1, hide_upd a1]
    have U1 := R4.upBxs (u := .ins (StC X.K) dx2 (stN.zip ws')) (ws := ws') (ys := z1) hi1 sa h4a na ⟨l2, dx2, upd_same⟩ (by rw [hO1]; exact rx)
    rw [e5] at U1
    have h4b : (upd H' b (.lst us)) pb = some (.lst (bs.map V.ref)) := by
      rw [← e5]
      have hba : pb ≠ a := fun w => by
        have := s3 _ _ lb
        rw [w, ha3] at this
        cases this
      rw [upd_ne hba]
      exact hh _ _ (s3 _ _ lb)
    have hO2 : hide O (upd H' b (.lst us)) = hide O H' := hide_upd b1
    have U2 := U1.upBxs (j := jb) (u := .lst us') (ws := us') (ys := z2) (by rw [List.getElem?_set_ne hne]; exact hi2) sb h4b nb (show HoIs _ _ _ false _ from upd_same) (by rw [hO2]; exact ry)
    have e6 : upd (upd H' b (.lst us)) b (.lst us') = H' := by
      funext c
      by_cases e : c = b
      · subst e; rw [upd_same, hb4]
      · rw [upd_ne e, upd_ne e]
    rw [e6] at U2
    refine q v O H' ⟨fun _ h => h, fun _ h => .inl h, fun c o n hc => ?_, fun c ⟨o, hc⟩ => ?_⟩ (by simpa using U2) rv
    · have n1 : c ≠ a := fun w => a2 (w ▸ n (w ▸ a1))
      have n2 : c ≠ b := fun w => b2 (w ▸ n (w ▸ b1))
      exact hk c o n1 n2 (s13 c o hc)
    · by_cases n1 : c = a
      · subst n1; exact ⟨_, ha4⟩
      · by_cases n2 : c = b
        · subst n2; exact ⟨_, hb4⟩
        · exact ⟨o, hk c o n1 n2 (s13 c o hc)⟩
  · cases ee
end
end BL

set_option Elab.async false
set_option linter.all false
set_option maxRecDepth 100000
/-! What the strolls' law needs besides. -/
namespace BL
open PySem PySem.Spec PyProof.Rows L2 LamX
/-! a test that changes the state -/
def tTM (K : PySem.W.Frag) (m : FM) : TT := fun σ H Q => ∃ O0 O r b r', RepE K O0 O σ H r ∧ m r = some (.bool b, r') ∧ ∀ O' H', Later O0 O H O' H' → RepE K O0 O' σ H' r' → Q b H'
@[simp] def mNot (m : FM) (r : Env) : Option (Dt × Env) := (m r).bind fun x => (toB x.1).bind fun k => some (.bool (!k), x.2)
@[simp] def sIfM (m : FM) (a b : FS) (r : Env) : Option SOut := (m r).bind fun x => (toB x.1).bind fun k => if k = true then a x.2 else b x.2
section
variable {X : Cx} {T : List (Addr × Str)} {a c e : Expr} {m : FM} {F G : FS} {pos : Pos} {f : FE}
theorem tValM (h : PE X a (tM X.K m)) (he : ∀ whole, isTrue a X.env whole = (do let v ← whole; standAt a.pos; holding [v] (truthy v)) := by intro _; rfl) : PT X a (tTM X.K m) :=
  (pt_val h he).imp fun σ H Q ⟨O0, O, r, b, r', R, e, q⟩ => ⟨O0, O, r, _, r', R, e, fun v O' H' L R' rv => ⟨b, rp_bl rv, q O' H' L R'⟩⟩
theorem tNotM (ha : PT X a (tTM X.K m)) : PT X (.UnaryOp .Not a pos) (tTM X.K (mNot m)) := (pt_not ha).imp fun σ H Q ⟨O0, O, r, d, r', R, e, q⟩ => by
  unfold mNot at e
  obtain ⟨x, ex, e⟩ := Option.bind_eq_some_iff.mp e
  obtain ⟨k, ek, e⟩ := Option.bind_eq_some_iff.mp e
  obtain ⟨x1, x2⟩ := x
  have hk := toB_eq ek
  dsimp only at hk ek e
  subst hk
  cases e
  exact ⟨O0, O, r, k, _, R, ex, fun O' H' L R' => q O' H' L R'⟩
theorem kIfM {a b : List Stmt} (hc : PT X c (tTM X.K m)) (ha : PSs X a (tsL X.K T F)) (hb : PSs X b (tsL X.K T G)) : PS X (.If c a b pos) (tsL X.K T (sIfM m F G)) := (ps_if hc ha hb).imp fun D σ H ⟨O0, O, r, o, R, it, ee, q⟩ => by
  unfold sIfM at ee
  obtain ⟨x, ex, ee⟩ := Option.bind_eq_some_iff.mp ee
  obtain ⟨k, ek, ee⟩ := Option.bind_eq_some_iff.mp ee
  obtain ⟨x1, x2⟩ := x
  have hk := toB_eq ek
  dsimp only at hk ek ee
  subst hk
  refine ⟨O0, O, r, k, x2, R, ex, fun O' H1 L R1 => ?_⟩
  have it1 := it.later R L
  cases k with
  | true => exact ⟨O0, O', x2, o, R1, it1, ee, q.later L.l⟩
  | false => exact ⟨O0, O', x2, o, R1, it1, ee, q.later L.l⟩
end
/-! x[:e] -/
def oUpTo : Dt → Dt → Option Dt
  | .list xs, .int j => some (.list (cutD xs none (some j)))
  | .tuple xs, .int j => some (.tuple (cutD xs none (some j)))
  | _, _ => none
def rUpTo (K : PySem.W.Frag) : V → Option Int → Option Int → Hp → VK → Prop := fun x l h H Q => ∃ j, l = none ∧ h = some j ∧ uD K (oSlice none (some j)) x H Q
section
variable {X : Cx} {a e : Expr} {f g : FE} {pos p2 : Pos}
theorem slU : SlR X (rUpTo X.K) := fun pins s σ H x v vl vu l h sl Q I rx hs pl pu ⟨j, el, eh, z⟩ => slD none (some j) pins s σ H x v vl vu l h sl Q I rx hs pl pu ⟨el, eh, z⟩
theorem dUpTo (ha : PE X a (tD X.K f)) (hb : PE X e (tD X.K g)) : PE X (.Subscript a (.Slice none (some e) none p2) pos) (tD X.K (eOp oUpTo f g)) :=
  (pe_slice slU ha po_none (po_some hb)).imp fun σ H Q ⟨O0, O, r, d, R, ee, q⟩ => by
    unfold eOp at ee
    obtain ⟨x, ex, ee⟩ := Option.bind_eq_some_iff.mp ee
    obtain ⟨y, ey, ee⟩ := Option.bind_eq_some_iff.mp ee
    refine ⟨O0, O, r, x, R, ex, fun v H1 s1 r1 => ⟨O0, O, r, y, R.mn s1, ey, fun w H2 s2 r2 => ?_⟩⟩
    have key : ∀ j, y = .int j → oSlice none (some j) x = some d → ∃ i, w = .int i ∧ rUpTo X.K v none (some i) H2 Q := fun j hy ho => by
      subst hy
      exact ⟨j, rp_int r2, j, rfl, rfl, O, x, d, (R.trk.mn s1).mn s2, r1.mn (hide_same s2), ho, fun z H3 s3 r3 => q z H3 ((s1.trans s2).trans s3) r3⟩
    unfold oUpTo at ee
    split at ee
    · cases ee; exact key _ rfl rfl
    · cases ee; exact key _ rfl rfl
    · cases ee
/-! keys of two written ints -/
theorem kInt {i : Int} {j} : PE X (.Constant (.int i) j pos) (tC (.int i)) := pe_int
theorem kNeg {i : Int} {j} {p0 : Pos} : PE X (.UnaryOp .USub (.Constant (.int i) j p0) pos) (tC (.int (-i))) := (pe_un un_neg pe_int).imp fun σ H Q q => ⟨i, rfl, q⟩
theorem kTup {e1 e2 : Expr} {a b : Int} {x1 : Nat} (h1 : PE X e1 (tC (.int a))) (h2 : PE X e2 (tC (.int b))) (s1 : starEach [e1, e2] X.env = (false, eval e1 X.env) :: starEach [e2] X.env := by rfl) (s2 : starEach [e2] X.env = (false, eval e2 X.env) :: starEach [] X.env := by rfl) : PE X (.Tuple [e1, e2] x1 pos) (tK2 (a, b)) :=
  (pe_tup (pa_cons h1 (pa_cons h2 pa_nil s2) s1)).imp fun σ H Q q => ⟨sizeOk_le (n := 2) rfl, q⟩
end
theorem nb_putFld {bad : SOut → Bool} [B : Bd bad] {i j : Nat} {f : FE} : NoB bad (sPutFld i j f) := fun r o e => by
  obtain ⟨x, _, e⟩ := Option.bind_eq_some_iff.mp e
  obtain ⟨y, _, e⟩ := Option.bind_eq_some_iff.mp e
  cases e; exact B.nx _
theorem nb_putBox {bad : SOut → Bool} [B : Bd bad] {i : Nat} {fi f : FE} : NoB bad (sPutBox i fi f) := fun r o e => by
  obtain ⟨x, _, e⟩ := Option.bind_eq_some_iff.mp e
  split at e
  · obtain ⟨y, _, e⟩ := Option.bind_eq_some_iff.mp e
    split at e
    · split at e
      · cases e; exact B.nx _
      · cases e
    · cases e
  · cases e
end BL

set_option Elab.async false
set_option linter.all false
set_option maxRecDepth 100000
/-! range(a, b) with bounds of any size. -/
namespace BL
open PySem PySem.Spec PyProof.Rows L2 LamX
theorem turn_rangeL {P : Program} {w : World} {K : PySem.W.Frag} {tg : Expr} (it : Addr) (lo : Int) (n : Nat) : Turn P w K tg (Itr lo n) [it] it (fun i h => IsLongIter h it (lo + (i : Nat) * 1) ((n : Int) - (i : Nat)) 1) where
  mem := by simp
  obj := fun i h st b hb => by
    have e : b = it := by simpa using hb
    subst e
    exact ⟨_, st, fun v z => by
      have z' : Data.fields _ = Data.cell v := z
      cases z'⟩
  keep := fun i h h' st k => k it (by simp) _ st
  item := by
    intro X hP hw hK hc i pins s σ H E I hf st hg
    subst hP hw hK
    obtain ⟨f0, f1, f2, f3, f4, f5⟩ := hf it (by simp)
    have W := Walks.longrange (prog := X.prog) (w := X.w) (I.ok.hd hc) it lo 1 n
    refine W.item i s _ _ hg st fun v h' tk hv st' kk => ?_
    obtain ⟨t, rfl⟩ := hv
    have I1 : Inv X pins σ H { s with heap := h', toks := tk } := I.turned (fun b o hb e => kk b o (by simpa using hb) e) f0 f1 f3 f4 f5
    refine ⟨_, rfl, go_of (s := { s with heap := h', toks := tk }) (n := "longrange_iterator") st' rfl rfl (by decide) ⟨.int (lo + i), H, I1, ⟨t, ?_⟩, ⟨rfl, rfl⟩, st', fun b hb => (hf b hb).1⟩⟩
    rw [Int.mul_one]
  done := by
    intro X hP hw hK hc i pins s σ H E I hf st hg
    subst hP hw hK
    obtain ⟨f0, f1, f2, f3, f4, f5⟩ := hf it (by simp)
    exact wpAny_pyNext_long_end (I.ok.hd hc) st (by have : n ≤ i := hg; omega) fun h' eb => ⟨rfl, I.turned (t' := s.toks) (fun b o hb e => eb b o hb e) f0 f1 f3 f4 f5⟩
  self := fun _ _ _ _ _ st h => wpAny_pyIter_longiter st h
section
variable {X : Cx} {tg : Expr}
theorem range_itL {pins : List (Addr × Obj)} {σ : L2.St} {H : Hp} {s : Shared} {R : It → Hp → Prop} {E : Value → Shared → Prop} {lo hi : Int} {t u v : Tok} {tk : Nat} (I : Inv X pins σ H s)
    (q : R (Itr lo (hi - lo).toNat) H) : wpAny (model X.prog X.w) X.A (pyIter (.ref s.heap.objs.size)) (PIE X pins σ tg R) E { s with heap := s.heap.push { cls := .type "range", data := .fields #[.int lo t, .int hi u, .int 1 v] }, toks := tk } := by
  have I1 : Inv X pins σ H { s with heap := s.heap.push { cls := .type "range", data := .fields #[.int lo t, .int hi u, .int 1 v] }, toks := tk } := I.kept fun b o e => Heap.get?_push_of_some _ e
  have e1 : lo + ((0 : Nat) : Int) * 1 = lo := by simp
  have e2 : (((hi - lo).toNat : Nat) : Int) - ((0 : Nat) : Int) = Builtin.Range.rangeSize lo hi 1 := by rw [rangeSize_one]; split <;> omega
  by_cases hsm : Builtin.Range.small lo hi 1 = true
  · refine wpAny_pyIter_range (IsRange.new ..) hsm ?_
    refine ⟨(s.heap.push { cls := .type "range", data := .fields #[.int lo t, .int hi u, .int 1 v] }).objs.size, [(s.heap.push { cls := .type "range", data := .fields #[.int lo t, .int hi u, .int 1 v] }).objs.size], _, _, H, rfl,
      I1.kept (t' := tk) fun b o e => Heap.get?_push_of_some _ e, turn_range _ lo (hi - lo).toNat, ?_, fun b hb => ?_, q⟩
    · show IsRangeIter _ _ (lo + ((0 : Nat) : Int) * 1) ((((hi - lo).toNat : Nat) : Int) - ((0 : Nat) : Int)) 1
      rw [e1, e2]
      exact Heap.get?_push_size _ rfl
    · have e : b = (s.heap.push { cls := .type "range", data := .fields #[.int lo t, .int hi u, .int 1 v] }).objs.size := by simpa using hb
      subst e
      exact I1.fpOk (Nat.le_refl _) (I1.hok.fresh (Nat.le_refl _))
  · refine wpAny_pyIter_longrange (IsRange.new ..) (by simpa using hsm) ?_
    refine ⟨(s.heap.push { cls := .type "range", data := .fields #[.int lo t, .int hi u, .int 1 v] }).objs.size, [(s.heap.push { cls := .type "range", data := .fields #[.int lo t, .int hi u, .int 1 v] }).objs.size], _, _, H, rfl,
      I1.kept (t' := tk) fun b o e => Heap.get?_push_of_some _ e, turn_rangeL _ lo (hi - lo).toNat, ?_, fun b hb => ?_, q⟩
    · show IsLongIter _ _ (lo + ((0 : Nat) : Int) * 1) ((((hi - lo).toNat : Nat) : Int) - ((0 : Nat) : Int)) 1
      rw [e1, e2]
      exact Heap.get?_push_size _ rfl
    · have e : b = (s.heap.push { cls := .type "range", data := .fields #[.int lo t, .int hi u, .int 1 v] }).objs.size := by simpa using hb
      subst e
      exact I1.fpOk (Nat.le_refl _) (I1.hok.fresh (Nat.le_refl _))
def tRngW (ta : TA) : TI := fun σ H R => ta σ H fun vs H1 => ∃ i j : Int, vs = [.int i, .int j] ∧ R (Itr i (j - i).toNat) H1
theorem pi_rangeW {a b : Expr} {ta : TA} {p pos : Pos} (hg : Gl X "range") (hm : X.mg "range" = none) (ha : PA X [a, b] ta) (hs : starEach [a, b] X.env = [(false, eval a X.env), (false, eval b X.env)] := by rfl) (hs2 : starEach [b] X.env = [(false, eval b X.env)] := by rfl) :
    PI X tg (.Call (.Name "range" p) [a, b] [] pos) (tRngW ta) := by
  refine ⟨fun pins s σ H R I h => ?_⟩
  refine Call_ (ld_blt I hg hm boot_range (PyProof.Rows.callWith_type1 (thn (ha.run pos pins s σ H _ I h) fun us s1 ⟨vs, H1, I1, r1, q1⟩ => ?_) (by rw [hs, hs2]) (by rw [hs2]; rfl)))
  obtain ⟨i, j, e, q⟩ := q1
  subst e
  cases r1 with
  | cons r rr =>
    cases rr with
    | cons r' rr =>
      cases rr
      obtain ⟨t, rfl⟩ := r
      obtain ⟨t', rfl⟩ := r'
      exact call_range_2 (range_itL I1 q)
end
def iRngW (a b : FE) (r : Env) : Option (List Dt) := (a r).bind fun x => (b r).bind fun y => match x, y with
  | .int i, .int j => some (rngD i (j - i).toNat)
  | _, _ => none
section
variable {X : Cx} {tg a b : Expr} {f g : FE} {pos : Pos}
theorem wRngW {p : Pos} (hg : Gl X "range") (hm : X.mg "range" = none) (h : PE X a (tD X.K f)) (h' : PE X b (tD X.K g)) (hs : starEach [a, b] X.env = [(false, eval a X.env), (false, eval b X.env)] := by rfl) (hs2 : starEach [b] X.env = [(false, eval b X.env)] := by rfl) :
    PI X tg (.Call (.Name "range" p) [a, b] [] pos) (iD X.K (iRngW f g)) :=
  (pi_rangeW hg hm (pa_cons h (pa_cons h' pa_nil hs2) (by rw [hs, hs2])) hs hs2).imp fun σ H R ⟨O0, O, r, xs, E, e, q⟩ => by
    unfold iRngW at e
    obtain ⟨x, ex, e⟩ := Option.bind_eq_some_iff.mp e
    obtain ⟨y, ey, e⟩ := Option.bind_eq_some_iff.mp e
    split at e
    · cases e
      refine ⟨O0, O, r, _, E, ex, fun v H1 s1 r1 => ⟨O0, O, r, _, E.mn s1, ey, fun w H2 s2 r2 => ?_⟩⟩
      cases r1
      cases r2
      exact ⟨_, _, rfl, q _ H2 (s1.trans s2) walks_rng⟩
    · cases e
end
end BL
namespace BL
open PySem PySem.Spec PyProof.Rows L2 LamX
theorem hu14 {k : Nat} {A : Around} (r : Room k A) : A.units + 1 < cLine := by have := r.un; omega
end BL
/-! A dict with tuple keys at the top asks the world once (a special's own bind): both answers are run. -/
namespace BL
open PySem
def ftx (b : Bool) (f : String → Bool) : String → Bool := fun s => if s = "special-get-raises" then b else f s
def wx (b : Bool) (w : World) : World := { w with params := { w.params with followText := ftx b w.params.followText } }
theorem wx_self (w : World) : w = wx (w.params.followText "special-get-raises") w := by
  have e : w.params.followText = ftx (w.params.followText "special-get-raises") w.params.followText := funext fun s => by
    unfold ftx
    split
    · rename_i h; rw [h]
    · rfl
  show w = { w with params := { w.params with followText := ftx (w.params.followText "special-get-raises") w.params.followText } }
  rw [← e]
theorem wx_all {p : World → Prop} (h : ∀ b w, p (wx b w)) (w : World) : p w := by
  rw [wx_self w]
  exact h _ w
end BL

set_option linter.all false
namespace BL
open PySem
/-- _law_mixed(_law_cell 0, _law_k 1, _law_number 2) -/
def F_law_mixed : FS :=
  (sSeq (sAsg (gNm 2) (eOp oMod (eOp oAdd (eOp oAdd (eOp oMod (eVar 0) (eC (.int 1000000007))) (eOp oMul (eC (.int 7919)) (eVar 1))) (eC (.int 11))) (eC (.int 1000003))))
    (sRet (eOp oMod (eOp oMul (eOp oMod (eOp oMul (eVar 2) (eVar 2)) (eC (.int 1000003))) (eVar 2)) (eC (.int 1000003)))))
def G_law_mixed : List Dt → Option Dt := runF F_law_mixed 3 2
theorem G_law_mixed_ap (x0 x1 : Dt) : G_law_mixed [x0, x1] = (F_law_mixed [some (.d x0), some (.d x1), none]).bind outD := rfl
/-- _law_among(_law_cell 0, _law_k 1, _law_beyond 2, _law_number 3, _law_wide 4) -/
def F_law_among : FS :=
  (sSeq (sAsg (gNm 3) (eCall G_law_mixed (aCons (eVar 0) (aCons (eVar 1) aNil))))
    (sSeq (sAsg (gNm 4) (eOp oAdd (eOp oAdd (eOp oMul (eOp oMod (eVar 0) (eOp oPow (eC (.int 10)) (eC (.int 40)))) (eOp oPow (eC (.int 1000003)) (eC (.int 5)))) (eOp oMul (eVar 3) (eOp oPow (eC (.int 1000003)) (eC (.int 3))))) (eCall G_law_mixed (aCons (eVar 0) (aCons (eOp oAdd (eVar 1) (eC (.int 50))) aNil)))))
    (sRet (eOp oIx (eLst (aCons (eC (.int 0)) (aCons (eOp oSub (eVar 2) (eC (.int 1))) (aCons (eOp oDiv (eVar 2) (eC (.int 2))) (aCons (eOp oMod (eVar 4) (eVar 2)) (aCons (eOp oMod (eVar 4) (eVar 2)) (aCons (eOp oMod (eVar 0) (eVar 2)) aNil))))))) (eOp oMod (eOp oDiv (eVar 3) (eC (.int 7))) (eC (.int 6)))))))
def G_law_among : List Dt → Option Dt := runF F_law_among 5 3
theorem G_law_among_ap (x0 x1 x2 : Dt) : G_law_among [x0, x1, x2] = (F_law_among [some (.d x0), some (.d x1), some (.d x2), none, none]).bind outD := rfl
/-- _law_laid(_law_pose_here 0, _law_side_here 1, _law_x 2, _law_y 3, _law_m 4) -/
def F_law_laid : FS :=
  (sSeq (sAsg (gNm 4) (eOp oSub (eVar 1) (eC (.int 1))))
    (sRet (eDix ["plain", "over", "under", "round"] (aCons (eTup (aCons (eVar 2) (aCons (eVar 3) aNil))) (aCons (eTup (aCons (eVar 3) (aCons (eVar 2) aNil))) (aCons (eTup (aCons (eOp oSub (eVar 4) (eVar 3)) (aCons (eOp oSub (eVar 4) (eVar 2)) aNil))) (aCons (eTup (aCons (eOp oSub (eVar 4) (eVar 2)) (aCons (eOp oSub (eVar 4) (eVar 3)) aNil))) aNil)))) (eVar 0))))
def G_law_laid : List Dt → Option Dt := runF F_law_laid 5 4
theorem G_law_laid_ap (x0 x1 x2 x3 : Dt) : G_law_laid [x0, x1, x2, x3] = (F_law_laid [some (.d x0), some (.d x1), some (.d x2), some (.d x3), none]).bind outD := rfl
/-- _law_pose(_law_number 0) -/
def F_law_pose : FS :=
  (sRet (eOp oIx (eLst (aCons (eC (.str "plain")) (aCons (eC (.str "over")) (aCons (eC (.str "under")) (aCons (eC (.str "round")) aNil))))) (eOp oMod (eVar 0) (eC (.int 4)))))
def G_law_pose : List Dt → Option Dt := runF F_law_pose 1 1
theorem G_law_pose_ap (x0 : Dt) : G_law_pose [x0] = (F_law_pose [some (.d x0)]).bind outD := rfl
/-- _law_side(_law_level 0) -/
def F_law_side : FS :=
  (sRet (eOp oShl (eC (.int 1)) (eVar 0)))
def G_law_side : List Dt → Option Dt := runF F_law_side 1 1
theorem G_law_side_ap (x0 : Dt) : G_law_side [x0] = (F_law_side [some (.d x0)]).bind outD := rfl
/-- _law_size(_law_number 0) -/
def F_law_size : FS :=
  (sRet (eOp oIx (eLst (aCons (eC (.int 40)) (aCons (eC (.int 0)) (aCons (eC (.int 1)) (aCons (eC (.int 2)) (aCons (eOp oMod (eOp oDiv (eVar 0) (eC (.int 8))) (eC (.int 41))) (aCons (eC (.int 3)) (aCons (eOp oMod (eOp oDiv (eVar 0) (eC (.int 8))) (eC (.int 41))) (aCons (eC (.int 39)) aNil))))))))) (eOp oMod (eVar 0) (eC (.int 8)))))
def G_law_size : List Dt → Option Dt := runF F_law_size 1 1
theorem G_law_size_ap (x0 : Dt) : G_law_size [x0] = (F_law_size [some (.d x0)]).bind outD := rfl
/-- _law_whole(_law_found 0) -/
def F_law_whole : FS :=
  (sRet (eAnd (eUn (oIs "int") (eVar 0)) (eNot (eUn (oIs "bool") (eVar 0)))))
def G_law_whole : List Dt → Option Dt := runF F_law_whole 1 1
theorem G_law_whole_ap (x0 : Dt) : G_law_whole [x0] = (F_law_whole [some (.d x0)]).bind outD := rfl
def d_POSES : Dt := (.tuple [(.str "plain"), (.str "over"), (.str "under"), (.str "round")])
/-- both(one 0, other 1, pose 2) -/
def F_both : FS :=
  (sSeq (sIf (eOp oEq (eVar 0) (eVar 1)) (sRet (eOp oIx (eC d_POSES) (eC (.int 0)))) sNext)
    (sSeq (sIf (eOp oEq (eVar 0) (eOp oIx (eC d_POSES) (eC (.int 0)))) (sRet (eVar 1)) sNext)
    (sSeq (sIf (eOp oEq (eVar 1) (eOp oIx (eC d_POSES) (eC (.int 0)))) (sRet (eVar 0)) sNext)
    (sRet (eOp oIx (eLc (iTup (eUn (oSlice (some 1) none) (eC d_POSES))) (gNm 2) (eOp oNotIn (eVar 2) (eTup (aCons (eVar 0) (aCons (eVar 1) aNil)))) (eVar 2) [2]) (eC (.int 0)))))))
def G_both : List Dt → Option Dt := runF F_both 3 2
theorem G_both_ap (x0 x1 : Dt) : G_both [x0, x1] = (F_both [some (.d x0), some (.d x1), none]).bind outD := rfl
/-- need_pose(pose 0) -/
def F_need_pose : FS :=
  (sIf (eOr (eNot (eUn (oIs "str") (eVar 0))) (eOp oNotIn (eVar 0) (eC d_POSES))) sNever sNext)
def G_need_pose : List Dt → Option Dt := runF F_need_pose 1 1
theorem G_need_pose_ap (x0 : Dt) : G_need_pose [x0] = (F_need_pose [some (.d x0)]).bind outD := rfl
/-- joined(one 0, other 1) -/
def F_joined : FS :=
  (sSeq (sDrop (eCall G_need_pose (aCons (eVar 0) aNil)))
    (sSeq (sDrop (eCall G_need_pose (aCons (eVar 1) aNil)))
    (sRet (eCall G_both (aCons (eVar 0) (aCons (eVar 1) aNil))))))
def G_joined : List Dt → Option Dt := runF F_joined 2 2
theorem G_joined_ap (x0 x1 : Dt) : G_joined [x0, x1] = (F_joined [some (.d x0), some (.d x1)]).bind outD := rfl
/-- led(pose 0, most 1, x 2, y 3) -/
def F_led : FS :=
  (sSeq (sIf (eOp oEq (eVar 0) (eC (.str "plain"))) (sRet (eTup (aCons (eVar 2) (aCons (eVar 3) aNil)))) sNext)
    (sSeq (sIf (eOp oEq (eVar 0) (eC (.str "over"))) (sRet (eTup (aCons (eVar 3) (aCons (eVar 2) aNil)))) sNext)
    (sSeq (sIf (eOp oEq (eVar 0) (eC (.str "under"))) (sRet (eTup (aCons (eOp oSub (eVar 1) (eVar 3)) (aCons (eOp oSub (eVar 1) (eVar 2)) aNil)))) sNext)
    (sRet (eTup (aCons (eOp oSub (eVar 1) (eVar 2)) (aCons (eOp oSub (eVar 1) (eVar 3)) aNil)))))))
def G_led : List Dt → Option Dt := runF F_led 4 4
theorem G_led_ap (x0 x1 x2 x3 : Dt) : G_led [x0, x1, x2, x3] = (F_led [some (.d x0), some (.d x1), some (.d x2), some (.d x3)]).bind outD := rfl
/-- is_among(thing 0, least 1, most 2) -/
def F_is_among : FS :=
  (sRet (eAnd (eUn (oIs "int") (eVar 0)) (eAnd (eNot (eUn (oIs "bool") (eVar 0))) (eChain oLe oLe (eVar 1) (eVar 0) (eVar 2)))))
def G_is_among : List Dt → Option Dt := runF F_is_among 3 3
theorem G_is_among_ap (x0 x1 x2 : Dt) : G_is_among [x0, x1, x2] = (F_is_among [some (.d x0), some (.d x1), some (.d x2)]).bind outD := rfl
/-- is_cell(size 0, thing 1, most 2) -/
def F_is_cell : FS :=
  (sSeq (sIf (eOr (eNot (eUn (oIs "tuple") (eVar 1))) (eOp oNe (eCall (c1 oLen) (aCons (eVar 1) aNil)) (eC (.int 2)))) (sRet (eC (.bool false))) sNext)
    (sSeq (sAsg (gNm 2) (eOp oSub (eOp oShl (eC (.int 1)) (eVar 0)) (eC (.int 1))))
    (sRet (eAnd (eCall G_is_among (aCons (eOp oIx (eVar 1) (eC (.int 0))) (aCons (eC (.int 0)) (aCons (eVar 2) aNil)))) (eCall G_is_among (aCons (eOp oIx (eVar 1) (eC (.int 1))) (aCons (eC (.int 0)) (aCons (eVar 2) aNil))))))))
def G_is_cell : List Dt → Option Dt := runF F_is_cell 3 2
theorem G_is_cell_ap (x0 x1 : Dt) : G_is_cell [x0, x1] = (F_is_cell [some (.d x0), some (.d x1), none]).bind outD := rfl
/-- need_cell(size 0, cell 1) -/
def F_need_cell : FS :=
  (sIf (eNot (eCall G_is_cell (aCons (eVar 0) (aCons (eVar 1) aNil)))) sNever sNext)
def G_need_cell : List Dt → Option Dt := runF F_need_cell 2 2
theorem G_need_cell_ap (x0 x1 : Dt) : G_need_cell [x0, x1] = (F_need_cell [some (.d x0), some (.d x1)]).bind outD := rfl
def d_MOST_SIZE : Dt := (.int 40)
/-- need_size(size 0) -/
def F_need_size : FS :=
  (sIf (eNot (eCall G_is_among (aCons (eVar 0) (aCons (eC (.int 0)) (aCons (eC d_MOST_SIZE) aNil))))) sNever sNext)
def G_need_size : List Dt → Option Dt := runF F_need_size 1 1
theorem G_need_size_ap (x0 : Dt) : G_need_size [x0] = (F_need_size [some (.d x0)]).bind outD := rfl
/-- laid(size 0, pose 1, cell 2) -/
def F_laid : FS :=
  (sSeq (sDrop (eCall G_need_size (aCons (eVar 0) aNil)))
    (sSeq (sDrop (eCall G_need_pose (aCons (eVar 1) aNil)))
    (sSeq (sDrop (eCall G_need_cell (aCons (eVar 0) (aCons (eVar 2) aNil))))
    (sRet (eCall G_led (aCons (eVar 1) (aCons (eOp oSub (eOp oShl (eC (.int 1)) (eVar 0)) (eC (.int 1))) (aCons (eOp oIx (eVar 2) (eC (.int 0))) (aCons (eOp oIx (eVar 2) (eC (.int 1))) aNil)))))))))
def G_laid : List Dt → Option Dt := runF F_laid 3 3
theorem G_laid_ap (x0 x1 x2 : Dt) : G_laid [x0, x1, x2] = (F_laid [some (.d x0), some (.d x1), some (.d x2)]).bind outD := rfl
/-- _law_many(_law_level 0) -/
def F_law_many : FS :=
  (sRet (eOp oShl (eC (.int 1)) (eOp oMul (eC (.int 2)) (eVar 0))))
def G_law_many : List Dt → Option Dt := runF F_law_many 1 1
theorem G_law_many_ap (x0 : Dt) : G_law_many [x0] = (F_law_many [some (.d x0)]).bind outD := rfl
/-- _law_walked(_law_size_here 0, _law_pose_here 1, _law_number 2, _law_x 3, _law_y 4, _law_side_here 5, _law_level 6, _law_digit 7) -/
def B_law_walked_1 : FS :=
  (sSeq (sAsg (gNm 7) (eOp oMod (eOp oDiv (eVar 2) (eCall G_law_many (aCons (eVar 6) aNil))) (eC (.int 4))))
    (sSeq (sIf (eOp oEq (eVar 7) (eC (.int 0))) (sPar [3, 4] (aCons (eVar 4) (aCons (eVar 3) aNil))) (sIf (eOp oEq (eVar 7) (eC (.int 3))) (sPar [3, 4] (aCons (eOp oSub (eOp oSub (eOp oMul (eC (.int 2)) (eVar 5)) (eC (.int 1))) (eVar 4)) (aCons (eOp oSub (eOp oSub (eVar 5) (eC (.int 1))) (eVar 3)) aNil))) (sPar [3, 4] (aCons (eOp oAdd (eVar 3) (eOp oMul (eVar 5) (eOp oSub (eVar 7) (eC (.int 1))))) (aCons (eOp oAdd (eVar 4) (eVar 5)) aNil)))))
    (sAsg (gNm 5) (eOp oMul (eC (.int 2)) (eVar 5)))))
def F_law_walked : FS :=
  (sSeq (sAsg (gTp [3, 4, 5]) (eTup (aCons (eC (.int 0)) (aCons (eC (.int 0)) (aCons (eC (.int 1)) aNil)))))
    (sSeq (sFor (iRng1 (eVar 0)) (gNm 6) B_law_walked_1)
    (sRet (eCall G_law_laid (aCons (eVar 1) (aCons (eVar 5) (aCons (eVar 3) (aCons (eVar 4) aNil))))))))
def G_law_walked : List Dt → Option Dt := runF F_law_walked 8 3
theorem G_law_walked_ap (x0 x1 x2 : Dt) : G_law_walked [x0, x1, x2] = (F_law_walked [some (.d x0), some (.d x1), some (.d x2), none, none, none, none, none]).bind outD := rfl
/-- cells_of(level 0) -/
def F_cells_of : FS :=
  (sRet (eOp oShl (eC (.int 1)) (eOp oMul (eC (.int 2)) (eVar 0))))
def G_cells_of : List Dt → Option Dt := runF F_cells_of 1 1
theorem G_cells_of_ap (x0 : Dt) : G_cells_of [x0] = (F_cells_of [some (.d x0)]).bind outD := rfl
def d_QUARTERS : Dt := (.tuple [(.tuple [(.str "over"), (.int 0), (.int 0)]), (.tuple [(.str "plain"), (.int 0), (.int 1)]), (.tuple [(.str "plain"), (.int 1), (.int 1)]), (.tuple [(.str "under"), (.int 1), (.int 0)])])
/-- quarter(pose 0, digit 1, inner 2, right 3, up 4) -/
def F_quarter : FS :=
  (sSeq (sAsg (gTp [2, 3, 4]) (eOp oIx (eC d_QUARTERS) (eVar 1)))
    (sSeq (sAsg (gTp [3, 4]) (eCall G_led (aCons (eVar 0) (aCons (eC (.int 1)) (aCons (eVar 3) (aCons (eVar 4) aNil))))))
    (sRet (eTup (aCons (eCall G_both (aCons (eVar 0) (aCons (eVar 2) aNil))) (aCons (eVar 3) (aCons (eVar 4) aNil)))))))
def G_quarter : List Dt → Option Dt := runF F_quarter 5 2
theorem G_quarter_ap (x0 x1 : Dt) : G_quarter [x0, x1] = (F_quarter [some (.d x0), some (.d x1), none, none, none]).bind outD := rfl
/-- come_to(size 0, pose 1, number 2, level 3, x 4, y 5, here 6, inner 7, right 8, up 9) -/
def B_come_to_1 : FS :=
  (sSeq (sAsg (gTp [6, 8, 9]) (eCall G_quarter (aCons (eVar 6) (aCons (eOp oAnd (eOp oShr (eVar 2) (eOp oMul (eC (.int 2)) (eVar 7))) (eC (.int 3))) aNil))))
    (sSeq (sAsg (gNm 4) (eOp oAdd (eVar 4) (eOp oShl (eVar 8) (eVar 7))))
    (sAsg (gNm 5) (eOp oAdd (eVar 5) (eOp oShl (eVar 9) (eVar 7))))))
def F_come_to : FS :=
  (sSeq (sAsg (gNm 4) (eC (.int 0)))
    (sSeq (sAsg (gNm 5) (eC (.int 0)))
    (sSeq (sAsg (gNm 6) (eVar 1))
    (sSeq (sFor (iRev2 (eVar 3) (eVar 0)) (gNm 7) B_come_to_1)
    (sRet (eTup (aCons (eVar 4) (aCons (eVar 5) (aCons (eVar 6) aNil)))))))))
def G_come_to : List Dt → Option Dt := runF F_come_to 10 4
theorem G_come_to_ap (x0 x1 x2 x3 : Dt) : G_come_to [x0, x1, x2, x3] = (F_come_to [some (.d x0), some (.d x1), some (.d x2), some (.d x3), none, none, none, none, none, none]).bind outD := rfl
/-- need_number(number 0, most 1) -/
def F_need_number : FS :=
  (sIf (eNot (eCall G_is_among (aCons (eVar 0) (aCons (eC (.int 0)) (aCons (eVar 1) aNil))))) sNever sNext)
def G_need_number : List Dt → Option Dt := runF F_need_number 2 2
theorem G_need_number_ap (x0 x1 : Dt) : G_need_number [x0, x1] = (F_need_number [some (.d x0), some (.d x1)]).bind outD := rfl
/-- cell_at(size 0, pose 1, number 2, x 3, y 4, here 5) -/
def F_cell_at : FS :=
  (sSeq (sDrop (eCall G_need_size (aCons (eVar 0) aNil)))
    (sSeq (sDrop (eCall G_need_pose (aCons (eVar 1) aNil)))
    (sSeq (sDrop (eCall G_need_number (aCons (eVar 2) (aCons (eOp oSub (eCall G_cells_of (aCons (eVar 0) aNil)) (eC (.int 1))) aNil))))
    (sSeq (sAsg (gTp [3, 4, 5]) (eCall G_come_to (aCons (eVar 0) (aCons (eVar 1) (aCons (eVar 2) (aCons (eC (.int 0)) aNil))))))
    (sRet (eTup (aCons (eVar 3) (aCons (eVar 4) aNil))))))))
def G_cell_at : List Dt → Option Dt := runF F_cell_at 6 3
theorem G_cell_at_ap (x0 x1 x2 : Dt) : G_cell_at [x0, x1, x2] = (F_cell_at [some (.d x0), some (.d x1), some (.d x2), none, none, none]).bind outD := rfl
/-- _law_numbered(_law_size_here 0, _law_pose_here 1, _law_cell 2, _law_x 3, _law_y 4, _law_number 5, _law_level 6, _law_side_here 7, _law_digit 8) -/
def B_law_numbered_1 : FS :=
  (sSeq (sAsg (gNm 7) (eCall G_law_side (aCons (eVar 6) aNil)))
    (sSeq (sIf (eOp oGe (eVar 4) (eVar 7)) (sSeq (sAsg (gNm 8) (eOp oAdd (eC (.int 1)) (eCall (c1 oInt) (aCons (eOp oGe (eVar 3) (eVar 7)) aNil))))
    (sPar [3, 4] (aCons (eOp oMod (eVar 3) (eVar 7)) (aCons (eOp oSub (eVar 4) (eVar 7)) aNil)))) (sIf (eOp oLt (eVar 3) (eVar 7)) (sSeq (sAsg (gNm 8) (eC (.int 0)))
    (sPar [3, 4] (aCons (eVar 4) (aCons (eVar 3) aNil)))) (sSeq (sAsg (gNm 8) (eC (.int 3)))
    (sPar [3, 4] (aCons (eOp oSub (eOp oSub (eVar 7) (eC (.int 1))) (eVar 4)) (aCons (eOp oSub (eOp oSub (eOp oMul (eC (.int 2)) (eVar 7)) (eC (.int 1))) (eVar 3)) aNil))))))
    (sAsg (gNm 5) (eOp oAdd (eOp oMul (eC (.int 4)) (eVar 5)) (eVar 8)))))
def F_law_numbered : FS :=
  (sSeq (sAsg (gTp [3, 4]) (eCall G_law_laid (aCons (eVar 1) (aCons (eCall G_law_side (aCons (eVar 0) aNil)) (aCons (eOp oIx (eVar 2) (eC (.int 0))) (aCons (eOp oIx (eVar 2) (eC (.int 1))) aNil))))))
    (sSeq (sAsg (gNm 5) (eC (.int 0)))
    (sSeq (sFor (iRngDn (eOp oSub (eVar 0) (eC (.int 1))) (eUn oNeg (eC (.int 1)))) (gNm 6) B_law_numbered_1)
    (sRet (eVar 5)))))
def G_law_numbered : List Dt → Option Dt := runF F_law_numbered 9 3
theorem G_law_numbered_ap (x0 x1 x2 : Dt) : G_law_numbered [x0, x1, x2] = (F_law_numbered [some (.d x0), some (.d x1), some (.d x2), none, none, none, none, none, none]).bind outD := rfl
/-- found_at(size 0, pose 1, cell 2, level 3, index 4, here 5, inner 6, spot 7, digit 8, within 9, right 10, up 11) -/
def B_found_at_1 : FS :=
  (sSeq (sAsg (gTp [9, 10, 11]) (eCall G_quarter (aCons (eVar 5) (aCons (eVar 8) aNil))))
    (sIf (eOp oEq (eTup (aCons (eVar 10) (aCons (eVar 11) aNil))) (eVar 7)) (sSeq (sAsg (gNm 4) (eOp oAdd (eOp oMul (eC (.int 4)) (eVar 4)) (eVar 8)))
    (sSeq (sAsg (gNm 5) (eVar 9))
    sBreak)) sNext))
def B_found_at_2 : FS :=
  (sSeq (sAsg (gNm 7) (eTup (aCons (eOp oAnd (eOp oShr (eOp oIx (eVar 2) (eC (.int 0))) (eVar 6)) (eC (.int 1))) (aCons (eOp oAnd (eOp oShr (eOp oIx (eVar 2) (eC (.int 1))) (eVar 6)) (eC (.int 1))) aNil))))
    (sFor (iRng1 (eC (.int 4))) (gNm 8) B_found_at_1))
def F_found_at : FS :=
  (sSeq (sAsg (gNm 4) (eC (.int 0)))
    (sSeq (sAsg (gNm 5) (eVar 1))
    (sSeq (sFor (iRev2 (eVar 3) (eVar 0)) (gNm 6) B_found_at_2)
    (sRet (eTup (aCons (eVar 4) (aCons (eVar 5) aNil)))))))
def G_found_at : List Dt → Option Dt := runF F_found_at 12 4
theorem G_found_at_ap (x0 x1 x2 x3 : Dt) : G_found_at [x0, x1, x2, x3] = (F_found_at [some (.d x0), some (.d x1), some (.d x2), some (.d x3), none, none, none, none, none, none, none, none]).bind outD := rfl
/-- number_of(size 0, pose 1, cell 2) -/
def F_number_of : FS :=
  (sSeq (sDrop (eCall G_need_size (aCons (eVar 0) aNil)))
    (sSeq (sDrop (eCall G_need_pose (aCons (eVar 1) aNil)))
    (sSeq (sDrop (eCall G_need_cell (aCons (eVar 0) (aCons (eVar 2) aNil))))
    (sRet (eOp oIx (eCall G_found_at (aCons (eVar 0) (aCons (eVar 1) (aCons (eVar 2) (aCons (eC (.int 0)) aNil))))) (eC (.int 0)))))))
def G_number_of : List Dt → Option Dt := runF F_number_of 3 3
theorem G_number_of_ap (x0 x1 x2 : Dt) : G_number_of [x0, x1, x2] = (F_number_of [some (.d x0), some (.d x1), some (.d x2)]).bind outD := rfl
/-- _law_are_near(_law_one 0, _law_other 1) -/
def F_law_are_near : FS :=
  (sRet (eOp oEq (eOp oAdd (eCall (c1 oAbs) (aCons (eOp oSub (eOp oIx (eVar 0) (eC (.int 0))) (eOp oIx (eVar 1) (eC (.int 0)))) aNil)) (eCall (c1 oAbs) (aCons (eOp oSub (eOp oIx (eVar 0) (eC (.int 1))) (eOp oIx (eVar 1) (eC (.int 1)))) aNil))) (eC (.int 1))))
def G_law_are_near : List Dt → Option Dt := runF F_law_are_near 2 2
theorem G_law_are_near_ap (x0 x1 : Dt) : G_law_are_near [x0, x1] = (F_law_are_near [some (.d x0), some (.d x1)]).bind outD := rfl
/-- _law_small_good(_law_size_here 0, _law_pose_here 1, _law_cells 2, _law_one 3, _law_other 4, _law_side_here 5, _law_number 6, _law_k 7) -/
def B_law_small_good_1 : FS :=
  (sIf (eNot (eCall G_law_are_near (aCons (eVar 3) (aCons (eVar 4) aNil)))) (sRet (eC (.bool false))) sNext)
def F_law_small_good : FS :=
  (sSeq (sAsg (gNm 2) (eLc (iRng1 (eCall G_law_many (aCons (eVar 0) aNil))) (gNm 6) eYes (eCall G_cell_at (aCons (eVar 0) (aCons (eVar 1) (aCons (eVar 6) aNil)))) [6]))
    (sSeq (sFor (iZip (eVar 2) (eUn (oSlice (some 1) none) (eVar 2))) (gTp [3, 4]) B_law_small_good_1)
    (sSeq (sAsg (gNm 5) (eCall G_law_side (aCons (eVar 0) aNil)))
    (sRet (eOp oEq (eCall (c1 oSorted) (aCons (eVar 2) aNil)) (eLc (iRng1 (eOp oMul (eVar 5) (eVar 5))) (gNm 7) eYes (eTup (aCons (eOp oDiv (eVar 7) (eVar 5)) (aCons (eOp oMod (eVar 7) (eVar 5)) aNil))) [7]))))))
def G_law_small_good : List Dt → Option Dt := runF F_law_small_good 8 2
theorem G_law_small_good_ap (x0 x1 : Dt) : G_law_small_good [x0, x1] = (F_law_small_good [some (.d x0), some (.d x1), none, none, none, none, none, none]).bind outD := rfl
/-- _law_square(_law_cell 0, _law_k 1, _law_size_here 2, _law_level 3, _law_side_here 4, _law_x 5) -/
def F_law_square : FS :=
  (sSeq (sAsg (gNm 3) (eOp oMod (eCall G_law_mixed (aCons (eVar 0) (aCons (eVar 1) aNil))) (eOp oAdd (eVar 2) (eC (.int 1)))))
    (sSeq (sAsg (gNm 3) (eOp oIx (eLst (aCons (eC (.int 0)) (aCons (eVar 2) (aCons (eVar 3) (aCons (eVar 3) aNil))))) (eOp oMod (eCall G_law_mixed (aCons (eVar 0) (aCons (eOp oAdd (eVar 1) (eC (.int 1))) aNil))) (eC (.int 4)))))
    (sSeq (sAsg (gNm 4) (eCall G_law_side (aCons (eVar 3) aNil)))
    (sSeq (sAsg (gNm 5) (eOp oMul (eCall G_law_among (aCons (eVar 0) (aCons (eOp oAdd (eVar 1) (eC (.int 2))) (aCons (eCall G_law_side (aCons (eOp oSub (eVar 2) (eVar 3)) aNil)) aNil)))) (eVar 4)))
    (sRet (eTup (aCons (eVar 3) (aCons (eTup (aCons (eVar 5) (aCons (eOp oMul (eCall G_law_among (aCons (eVar 0) (aCons (eOp oAdd (eVar 1) (eC (.int 3))) (aCons (eCall G_law_side (aCons (eOp oSub (eVar 2) (eVar 3)) aNil)) aNil)))) (eVar 4)) aNil))) aNil))))))))
def G_law_square : List Dt → Option Dt := runF F_law_square 6 3
theorem G_law_square_ap (x0 x1 x2 : Dt) : G_law_square [x0, x1, x2] = (F_law_square [some (.d x0), some (.d x1), some (.d x2), none, none, none]).bind outD := rfl
/-- need_square(size 0, square 1, is_good 2, side 3) -/
def F_need_square : FS :=
  (sSeq (sAsg (gNm 2) (eAnd (eUn (oIs "tuple") (eVar 1)) (eAnd (eOp oEq (eCall (c1 oLen) (aCons (eVar 1) aNil)) (eC (.int 2))) (eCall G_is_among (aCons (eOp oIx (eVar 1) (eC (.int 0))) (aCons (eC (.int 0)) (aCons (eVar 0) aNil)))))))
    (sSeq (sIf (eOr (eNot (eVar 2)) (eNot (eCall G_is_cell (aCons (eVar 0) (aCons (eOp oIx (eVar 1) (eC (.int 1))) aNil))))) sNever sNext)
    (sSeq (sAsg (gNm 3) (eOp oShl (eC (.int 1)) (eOp oIx (eVar 1) (eC (.int 0)))))
    (sIf (eOr (eOp oGt (eOp oMod (eOp oIx (eOp oIx (eVar 1) (eC (.int 1))) (eC (.int 0))) (eVar 3)) (eC (.int 0))) (eOp oGt (eOp oMod (eOp oIx (eOp oIx (eVar 1) (eC (.int 1))) (eC (.int 1))) (eVar 3)) (eC (.int 0)))) sNever sNext))))
def G_need_square : List Dt → Option Dt := runF F_need_square 4 2
theorem G_need_square_ap (x0 x1 : Dt) : G_need_square [x0, x1] = (F_need_square [some (.d x0), some (.d x1), none, none]).bind outD := rfl
/-- pose_in(size 0, pose 1, square 2) -/
def F_pose_in : FS :=
  (sSeq (sDrop (eCall G_need_size (aCons (eVar 0) aNil)))
    (sSeq (sDrop (eCall G_need_pose (aCons (eVar 1) aNil)))
    (sSeq (sDrop (eCall G_need_square (aCons (eVar 0) (aCons (eVar 2) aNil))))
    (sRet (eOp oIx (eCall G_found_at (aCons (eVar 0) (aCons (eVar 1) (aCons (eOp oIx (eVar 2) (eC (.int 1))) (aCons (eOp oIx (eVar 2) (eC (.int 0))) aNil))))) (eC (.int 1)))))))
def G_pose_in : List Dt → Option Dt := runF F_pose_in 3 3
theorem G_pose_in_ap (x0 x1 x2 : Dt) : G_pose_in [x0, x1, x2] = (F_pose_in [some (.d x0), some (.d x1), some (.d x2)]).bind outD := rfl
/-- stretch_of(size 0, pose 1, square 2, cells 3, first 4) -/
def F_stretch_of : FS :=
  (sSeq (sDrop (eCall G_need_size (aCons (eVar 0) aNil)))
    (sSeq (sDrop (eCall G_need_pose (aCons (eVar 1) aNil)))
    (sSeq (sDrop (eCall G_need_square (aCons (eVar 0) (aCons (eVar 2) aNil))))
    (sSeq (sAsg (gNm 3) (eCall G_cells_of (aCons (eOp oIx (eVar 2) (eC (.int 0))) aNil)))
    (sSeq (sAsg (gNm 4) (eOp oMul (eOp oIx (eCall G_found_at (aCons (eVar 0) (aCons (eVar 1) (aCons (eOp oIx (eVar 2) (eC (.int 1))) (aCons (eOp oIx (eVar 2) (eC (.int 0))) aNil))))) (eC (.int 0))) (eVar 3)))
    (sRet (eTup (aCons (eVar 4) (aCons (eOp oSub (eOp oAdd (eVar 4) (eVar 3)) (eC (.int 1))) aNil)))))))))
def G_stretch_of : List Dt → Option Dt := runF F_stretch_of 5 3
theorem G_stretch_of_ap (x0 x1 x2 : Dt) : G_stretch_of [x0, x1, x2] = (F_stretch_of [some (.d x0), some (.d x1), some (.d x2), none, none]).bind outD := rfl
/-- _law_is_square(_law_found 0, _law_level 1, _law_size_here 2, _law_corner 3, _law_one 4) -/
def F_law_is_square : FS :=
  (sSeq (sIf (eOr (eNot (eUn (oIs "tuple") (eVar 0))) (eOr (eOp oNe (eCall (c1 oLen) (aCons (eVar 0) aNil)) (eC (.int 2))) (eOr (eNot (eCall G_law_whole (aCons (eOp oIx (eVar 0) (eC (.int 0))) aNil))) (eOp oNe (eOp oIx (eVar 0) (eC (.int 0))) (eVar 1))))) (sRet (eC (.bool false))) sNext)
    (sSeq (sAsg (gNm 3) (eOp oIx (eVar 0) (eC (.int 1))))
    (sSeq (sIf (eOr (eNot (eUn (oIs "tuple") (eVar 3))) (eOr (eOp oNe (eCall (c1 oLen) (aCons (eVar 3) aNil)) (eC (.int 2))) (eOr (eNot (eCall G_law_whole (aCons (eOp oIx (eVar 3) (eC (.int 0))) aNil))) (eNot (eCall G_law_whole (aCons (eOp oIx (eVar 3) (eC (.int 1))) aNil)))))) (sRet (eC (.bool false))) sNext)
    (sRet (eOp oEq (eLc (iTup (eVar 3)) (gNm 4) (eOr (eOp oNe (eOp oMod (eVar 4) (eCall G_law_side (aCons (eVar 1) aNil))) (eC (.int 0))) (eNot (eChain oLe oLt (eC (.int 0)) (eVar 4) (eCall G_law_side (aCons (eVar 2) aNil))))) (eVar 4) [4]) (eLst aNil))))))
def G_law_is_square : List Dt → Option Dt := runF F_law_is_square 5 3
theorem G_law_is_square_ap (x0 x1 x2 : Dt) : G_law_is_square [x0, x1, x2] = (F_law_is_square [some (.d x0), some (.d x1), some (.d x2), none, none]).bind outD := rfl
/-- net_square(size 0, pose 1, level 2, index 3, x 4, y 5, here 6) -/
def F_net_square : FS :=
  (sSeq (sAsg (gTp [4, 5, 6]) (eCall G_come_to (aCons (eVar 0) (aCons (eVar 1) (aCons (eOp oMul (eVar 3) (eCall G_cells_of (aCons (eVar 2) aNil))) (aCons (eVar 2) aNil))))))
    (sRet (eTup (aCons (eVar 2) (aCons (eTup (aCons (eVar 4) (aCons (eVar 5) aNil))) aNil)))))
def G_net_square : List Dt → Option Dt := runF F_net_square 7 4
theorem G_net_square_ap (x0 x1 x2 x3 : Dt) : G_net_square [x0, x1, x2, x3] = (F_net_square [some (.d x0), some (.d x1), some (.d x2), some (.d x3), none, none, none]).bind outD := rfl
/-- square_at(size 0, pose 1, level 2, index 3) -/
def F_square_at : FS :=
  (sSeq (sDrop (eCall G_need_size (aCons (eVar 0) aNil)))
    (sSeq (sDrop (eCall G_need_pose (aCons (eVar 1) aNil)))
    (sSeq (sDrop (eCall G_need_number (aCons (eVar 2) (aCons (eVar 0) aNil))))
    (sSeq (sDrop (eCall G_need_number (aCons (eVar 3) (aCons (eOp oSub (eCall G_cells_of (aCons (eOp oSub (eVar 0) (eVar 2)) aNil)) (eC (.int 1))) aNil))))
    (sRet (eCall G_net_square (aCons (eVar 0) (aCons (eVar 1) (aCons (eVar 2) (aCons (eVar 3) aNil))))))))))
def G_square_at : List Dt → Option Dt := runF F_square_at 4 4
theorem G_square_at_ap (x0 x1 x2 x3 : Dt) : G_square_at [x0, x1, x2, x3] = (F_square_at [some (.d x0), some (.d x1), some (.d x2), some (.d x3)]).bind outD := rfl
/-- _law_good(_law_size_here 0, _law_pose_here 1, _law_found 2, _law_first 3, _law_last 4, _law_at 5, _law_square 6, _law_level 7, _law_corner 8, _law_cells 9) -/
def B_law_good_1 : FS :=
  (sSeq (sIf (eOr (eNot (eUn (oIs "tuple") (eVar 6))) (eOr (eOp oNe (eCall (c1 oLen) (aCons (eVar 6) aNil)) (eC (.int 2))) (eNot (eCall G_law_whole (aCons (eOp oIx (eVar 6) (eC (.int 0))) aNil))))) (sRet (eC (.bool false))) sNext)
    (sSeq (sAsg (gTp [7, 8]) (eVar 6))
    (sSeq (sIf (eOr (eNot (eChain oLe oLe (eC (.int 0)) (eVar 7) (eVar 0))) (eOr (eNot (eUn (oIs "tuple") (eVar 8))) (eOp oNe (eCall (c1 oLen) (aCons (eVar 8) aNil)) (eC (.int 2))))) (sRet (eC (.bool false))) sNext)
    (sSeq (sIf (eOr (eOp oNe (eOp oMod (eOp oIx (eVar 8) (eC (.int 0))) (eCall G_law_side (aCons (eVar 7) aNil))) (eC (.int 0))) (eOr (eOp oNe (eOp oMod (eOp oIx (eVar 8) (eC (.int 1))) (eCall G_law_side (aCons (eVar 7) aNil))) (eC (.int 0))) (eOp oGt (eVar 5) (eVar 4)))) (sRet (eC (.bool false))) sNext)
    (sSeq (sAsg (gNm 9) (eCall G_law_many (aCons (eVar 7) aNil)))
    (sSeq (sIf (eOr (eOp oNe (eOp oMul (eOp oDiv (eCall G_law_numbered (aCons (eVar 0) (aCons (eVar 1) (aCons (eVar 8) aNil)))) (eVar 9)) (eVar 9)) (eVar 5)) (eOp oGt (eOp oSub (eOp oAdd (eVar 5) (eVar 9)) (eC (.int 1))) (eVar 4))) (sRet (eC (.bool false))) sNext)
    (sSeq (sIf (eAnd (eOp oLt (eVar 7) (eVar 0)) (eAnd (eOp oEq (eOp oMod (eVar 5) (eOp oMul (eC (.int 4)) (eVar 9))) (eC (.int 0))) (eOp oLe (eOp oSub (eOp oAdd (eVar 5) (eOp oMul (eC (.int 4)) (eVar 9))) (eC (.int 1))) (eVar 4)))) (sRet (eC (.bool false))) sNext)
    (sAsg (gNm 5) (eOp oAdd (eVar 5) (eVar 9))))))))))
def F_law_good : FS :=
  (sSeq (sAsg (gNm 5) (eVar 3))
    (sSeq (sFor (iList (eVar 2)) (gNm 6) B_law_good_1)
    (sRet (eOp oEq (eVar 5) (eOp oAdd (eVar 4) (eC (.int 1)))))))
def G_law_good : List Dt → Option Dt := runF F_law_good 10 5
theorem G_law_good_ap (x0 x1 x2 x3 x4 : Dt) : G_law_good [x0, x1, x2, x3, x4] = (F_law_good [some (.d x0), some (.d x1), some (.d x2), some (.d x3), some (.d x4), none, none, none, none, none]).bind outD := rfl
/-- _law_stretch(_law_cell 0, _law_k 1, _law_size_here 2, _law_cells 3, _law_number 4, _law_one 5, _law_level 6, _law_edge 7, _law_some 8) -/
def F_law_stretch : FS :=
  (sSeq (sAsg (gNm 3) (eCall G_law_many (aCons (eVar 2) aNil)))
    (sSeq (sAsg (gNm 4) (eCall G_law_mixed (aCons (eVar 0) (aCons (eVar 1) aNil))))
    (sSeq (sAsg (gNm 5) (eCall G_law_among (aCons (eVar 0) (aCons (eC (.int 20)) (aCons (eVar 3) aNil)))))
    (sSeq (sAsg (gNm 6) (eOp oMod (eOp oDiv (eVar 4) (eC (.int 6))) (eOp oAdd (eVar 2) (eC (.int 1)))))
    (sSeq (sAsg (gNm 7) (eOp oMul (eOp oDiv (eVar 5) (eCall G_law_many (aCons (eVar 6) aNil))) (eCall G_law_many (aCons (eVar 6) aNil))))
    (sSeq (sAsg (gNm 8) (eLst (aCons (eTup (aCons (eVar 5) (aCons (eVar 5) aNil))) (aCons (eTup (aCons (eC (.int 0)) (aCons (eOp oSub (eVar 3) (eC (.int 1))) aNil))) (aCons (eTup (aCons (eC (.int 0)) (aCons (eVar 5) aNil))) (aCons (eTup (aCons (eVar 5) (aCons (eCall (c2 oMin2) (aCons (eOp oSub (eVar 3) (eC (.int 1))) (aCons (eOp oAdd (eVar 5) (eOp oMod (eVar 4) (eC (.int 99)))) aNil))) aNil))) aNil))))))
    (sSeq (sAsg (gNm 8) (eOp oAdd (eVar 8) (eLst (aCons (eTup (aCons (eCall (c2 oMax2) (aCons (eC (.int 0)) (aCons (eOp oSub (eVar 7) (eOp oMod (eVar 4) (eC (.int 50)))) aNil))) (aCons (eCall (c2 oMin2) (aCons (eOp oSub (eVar 3) (eC (.int 1))) (aCons (eOp oAdd (eVar 7) (eOp oMod (eOp oDiv (eVar 4) (eC (.int 50))) (eC (.int 50)))) aNil))) aNil))) aNil))))
    (sRet (eOp oIx (eOp oAdd (eVar 8) (eLst (aCons (eCall (c1 oTuple) (aCons (eCall (c1 oSorted) (aCons (eLst (aCons (eVar 5) (aCons (eCall G_law_among (aCons (eVar 0) (aCons (eC (.int 21)) (aCons (eVar 3) aNil)))) aNil))) aNil)) aNil)) aNil))) (eOp oMod (eVar 4) (eC (.int 6))))))))))))
def G_law_stretch : List Dt → Option Dt := runF F_law_stretch 9 3
theorem G_law_stretch_ap (x0 x1 x2 : Dt) : G_law_stretch [x0, x1, x2] = (F_law_stretch [some (.d x0), some (.d x1), some (.d x2), none, none, none, none, none, none]).bind outD := rfl
/-- greatest_level(size 0, number 1, left 2, level 3) -/
noncomputable def B_greatest_level_1 : FS :=
  (sAsg (gNm 3) (eOp oAdd (eVar 3) (eC (.int 1))))
noncomputable def F_greatest_level : FS :=
  (sSeq (sAsg (gNm 3) (eC (.int 0)))
    (sSeq (sWhile (eAnd (eOp oLt (eVar 3) (eVar 0)) (eAnd (eOp oEq (eOp oMod (eVar 1) (eCall G_cells_of (aCons (eOp oAdd (eVar 3) (eC (.int 1))) aNil))) (eC (.int 0))) (eOp oLe (eCall G_cells_of (aCons (eOp oAdd (eVar 3) (eC (.int 1))) aNil)) (eVar 2)))) B_greatest_level_1)
    (sRet (eVar 3))))
noncomputable def G_greatest_level : List Dt → Option Dt := runF F_greatest_level 4 3
theorem G_greatest_level_ap (x0 x1 x2 : Dt) : G_greatest_level [x0, x1, x2] = (F_greatest_level [some (.d x0), some (.d x1), some (.d x2), none]).bind outD := rfl
/-- squares_of(size 0, pose 1, first 2, last 3, found 4, level 5) -/
noncomputable def B_squares_of_1 : FS :=
  (sSeq (sAsg (gNm 5) (eCall G_greatest_level (aCons (eVar 0) (aCons (eVar 2) (aCons (eOp oAdd (eOp oSub (eVar 3) (eVar 2)) (eC (.int 1))) aNil)))))
    (sSeq (sDropM (mApp 4 (eCall G_net_square (aCons (eVar 0) (aCons (eVar 1) (aCons (eVar 5) (aCons (eOp oDiv (eVar 2) (eCall G_cells_of (aCons (eVar 5) aNil))) aNil)))))))
    (sAsg (gNm 2) (eOp oAdd (eVar 2) (eCall G_cells_of (aCons (eVar 5) aNil))))))
noncomputable def F_squares_of : FS :=
  (sSeq (sDrop (eCall G_need_size (aCons (eVar 0) aNil)))
    (sSeq (sDrop (eCall G_need_pose (aCons (eVar 1) aNil)))
    (sSeq (sDrop (eCall G_need_number (aCons (eVar 2) (aCons (eOp oSub (eCall G_cells_of (aCons (eVar 0) aNil)) (eC (.int 1))) aNil))))
    (sSeq (sDrop (eCall G_need_number (aCons (eVar 3) (aCons (eOp oSub (eCall G_cells_of (aCons (eVar 0) aNil)) (eC (.int 1))) aNil))))
    (sSeq (sIf (eOp oGt (eVar 2) (eVar 3)) sNever sNext)
    (sSeq (sOwn 4 aNil)
    (sSeq (sWhile (eOp oLe (eVar 2) (eVar 3)) B_squares_of_1)
    (sRetO 4))))))))
noncomputable def G_squares_of : List Dt → Option Dt := runF F_squares_of 6 4
theorem G_squares_of_ap (x0 x1 x2 x3 : Dt) : G_squares_of [x0, x1, x2, x3] = (F_squares_of [some (.d x0), some (.d x1), some (.d x2), some (.d x3), none, none]).bind outD := rfl
noncomputable def H_squares_of : List Dt → Option (List Dt) := runO F_squares_of 6 4
theorem H_squares_of_ap (x0 x1 x2 x3 : Dt) : H_squares_of [x0, x1, x2, x3] = (F_squares_of [some (.d x0), some (.d x1), some (.d x2), some (.d x3), none, none]).bind outO := rfl
/-- _law_shared(_law_field_here 0, _law_x 1, _law_y 2, _law_side_here 3, _law_wide 4, _law_high 5) -/
def F_law_shared : FS :=
  (sSeq (sAsg (gNm 4) (eOp oSub (eCall (c2 oMin2) (aCons (eOp oAdd (eOp oIx (eVar 0) (eC (.int 0))) (eOp oIx (eVar 0) (eC (.int 2)))) (aCons (eOp oAdd (eVar 1) (eVar 3)) aNil))) (eCall (c2 oMax2) (aCons (eOp oIx (eVar 0) (eC (.int 0))) (aCons (eVar 1) aNil)))))
    (sSeq (sAsg (gNm 5) (eOp oSub (eCall (c2 oMin2) (aCons (eOp oAdd (eOp oIx (eVar 0) (eC (.int 1))) (eOp oIx (eVar 0) (eC (.int 3)))) (aCons (eOp oAdd (eVar 2) (eVar 3)) aNil))) (eCall (c2 oMax2) (aCons (eOp oIx (eVar 0) (eC (.int 1))) (aCons (eVar 2) aNil)))))
    (sRet (eOp oMul (eCall (c2 oMax2) (aCons (eC (.int 0)) (aCons (eVar 4) aNil))) (eCall (c2 oMax2) (aCons (eC (.int 0)) (aCons (eVar 5) aNil)))))))
def G_law_shared : List Dt → Option Dt := runF F_law_shared 6 4
theorem G_law_shared_ap (x0 x1 x2 x3 : Dt) : G_law_shared [x0, x1, x2, x3] = (F_law_shared [some (.d x0), some (.d x1), some (.d x2), some (.d x3), none, none]).bind outD := rfl
/-- _law_ahead(_law_size_here 0, _law_pose_here 1, _law_field_here 2, _law_number 3, _law_found 4, _law_at 5, _law_level 6, _law_x 7, _law_y 8, _law_side_here 9) -/
noncomputable def B_law_ahead_1 : FS :=
  (sSeq (sAsg (gTp [7, 8]) (eCall G_law_walked (aCons (eVar 0) (aCons (eVar 1) (aCons (eVar 5) aNil)))))
    (sSeq (sAsg (gNm 9) (eCall G_law_side (aCons (eVar 6) aNil)))
    (sSeq (sAsg (gNm 4) (eOp oAdd (eVar 4) (eCall G_law_shared (aCons (eVar 2) (aCons (eOp oMul (eOp oDiv (eVar 7) (eVar 9)) (eVar 9)) (aCons (eOp oMul (eOp oDiv (eVar 8) (eVar 9)) (eVar 9)) (aCons (eVar 9) aNil)))))))
    (sAsg (gNm 5) (eOp oAdd (eVar 5) (eCall G_law_many (aCons (eVar 6) aNil)))))))
noncomputable def B_law_ahead_2 : FS :=
  (sWhile (eOp oLe (eOp oAdd (eVar 5) (eCall G_law_many (aCons (eVar 6) aNil))) (eVar 3)) B_law_ahead_1)
noncomputable def F_law_ahead : FS :=
  (sSeq (sAsg (gNm 4) (eC (.int 0)))
    (sSeq (sAsg (gNm 5) (eC (.int 0)))
    (sSeq (sFor (iRngDn (eVar 0) (eUn oNeg (eC (.int 1)))) (gNm 6) B_law_ahead_2)
    (sRet (eVar 4)))))
noncomputable def G_law_ahead : List Dt → Option Dt := runF F_law_ahead 10 4
theorem G_law_ahead_ap (x0 x1 x2 x3 : Dt) : G_law_ahead [x0, x1, x2, x3] = (F_law_ahead [some (.d x0), some (.d x1), some (.d x2), some (.d x3), none, none, none, none, none, none]).bind outD := rfl
/-- _law_field(_law_cell 0, _law_k 1, _law_size_here 2, _law_most 3, _law_side_here 4, _law_x 5, _law_y 6, _law_wide 7, _law_high 8) -/
def F_law_field : FS :=
  (sSeq (sAsg (gNm 4) (eCall G_law_side (aCons (eVar 2) aNil)))
    (sSeq (sPar [5, 6] (aCons (eCall G_law_among (aCons (eVar 0) (aCons (eVar 1) (aCons (eVar 4) aNil)))) (aCons (eCall G_law_among (aCons (eVar 0) (aCons (eOp oAdd (eVar 1) (eC (.int 1))) (aCons (eVar 4) aNil)))) aNil)))
    (sSeq (sAsg (gNm 7) (eOp oAdd (eC (.int 1)) (eCall G_law_among (aCons (eVar 0) (aCons (eOp oAdd (eVar 1) (eC (.int 2))) (aCons (eOp oSub (eVar 4) (eVar 5)) aNil))))))
    (sSeq (sAsg (gNm 8) (eOp oAdd (eC (.int 1)) (eCall G_law_among (aCons (eVar 0) (aCons (eOp oAdd (eVar 1) (eC (.int 3))) (aCons (eOp oSub (eVar 4) (eVar 6)) aNil))))))
    (sSeq (sIf (eOp oGt (eVar 3) (eC (.int 0))) (sSeq (sAsg (gNm 7) (eCall (c2 oMin2) (aCons (eVar 7) (aCons (eOp oAdd (eC (.int 1)) (eOp oMod (eCall G_law_mixed (aCons (eVar 0) (aCons (eOp oAdd (eVar 1) (eC (.int 4))) aNil))) (eVar 3))) aNil))))
    (sAsg (gNm 8) (eCall (c2 oMin2) (aCons (eVar 8) (aCons (eOp oAdd (eC (.int 1)) (eOp oMod (eCall G_law_mixed (aCons (eVar 0) (aCons (eOp oAdd (eVar 1) (eC (.int 5))) aNil))) (eVar 3))) aNil))))) sNext)
    (sRet (eTup (aCons (eVar 5) (aCons (eVar 6) (aCons (eVar 7) (aCons (eVar 8) aNil)))))))))))
def G_law_field : List Dt → Option Dt := runF F_law_field 9 4
theorem G_law_field_ap (x0 x1 x2 x3 : Dt) : G_law_field [x0, x1, x2, x3] = (F_law_field [some (.d x0), some (.d x1), some (.d x2), some (.d x3), none, none, none, none, none]).bind outD := rfl
/-- _law_is_in(_law_field_here 0, _law_spot 1) -/
def F_law_is_in : FS :=
  (sRet (eAnd (eChain oLe oLt (eOp oIx (eVar 0) (eC (.int 0))) (eOp oIx (eVar 1) (eC (.int 0))) (eOp oAdd (eOp oIx (eVar 0) (eC (.int 0))) (eOp oIx (eVar 0) (eC (.int 2))))) (eChain oLe oLt (eOp oIx (eVar 0) (eC (.int 1))) (eOp oIx (eVar 1) (eC (.int 1))) (eOp oAdd (eOp oIx (eVar 0) (eC (.int 1))) (eOp oIx (eVar 0) (eC (.int 3)))))))
def G_law_is_in : List Dt → Option Dt := runF F_law_is_in 2 2
theorem G_law_is_in_ap (x0 x1 : Dt) : G_law_is_in [x0, x1] = (F_law_is_in [some (.d x0), some (.d x1)]).bind outD := rfl
/-- shared(begin 0, long 1, other 2, side 3) -/
def F_shared : FS :=
  (sRet (eCall (c2 oMax2) (aCons (eC (.int 0)) (aCons (eOp oSub (eCall (c2 oMin2) (aCons (eOp oAdd (eVar 0) (eVar 1)) (aCons (eOp oAdd (eVar 2) (eVar 3)) aNil))) (eCall (c2 oMax2) (aCons (eVar 0) (aCons (eVar 2) aNil)))) aNil))))
def G_shared : List Dt → Option Dt := runF F_shared 4 4
theorem G_shared_ap (x0 x1 x2 x3 : Dt) : G_shared [x0, x1, x2, x3] = (F_shared [some (.d x0), some (.d x1), some (.d x2), some (.d x3)]).bind outD := rfl
/-- common(field 0, x 1, y 2, side 3) -/
def F_common : FS :=
  (sRet (eOp oMul (eCall G_shared (aCons (eOp oIx (eVar 0) (eC (.int 0))) (aCons (eOp oIx (eVar 0) (eC (.int 2))) (aCons (eVar 1) (aCons (eVar 3) aNil))))) (eCall G_shared (aCons (eOp oIx (eVar 0) (eC (.int 1))) (aCons (eOp oIx (eVar 0) (eC (.int 3))) (aCons (eVar 2) (aCons (eVar 3) aNil)))))))
def G_common : List Dt → Option Dt := runF F_common 4 4
theorem G_common_ap (x0 x1 x2 x3 : Dt) : G_common [x0, x1, x2, x3] = (F_common [some (.d x0), some (.d x1), some (.d x2), some (.d x3)]).bind outD := rfl
/-- need_field(size 0, field 1, side 2) -/
def F_need_field : FS :=
  (sSeq (sIf (eOr (eNot (eUn (oIs "tuple") (eVar 1))) (eOr (eOp oNe (eCall (c1 oLen) (aCons (eVar 1) aNil)) (eC (.int 4))) (eNot (eCall G_is_cell (aCons (eVar 0) (aCons (eUn (oSlice none (some 2)) (eVar 1)) aNil)))))) sNever sNext)
    (sSeq (sAsg (gNm 2) (eOp oShl (eC (.int 1)) (eVar 0)))
    (sIf (eOr (eNot (eCall G_is_among (aCons (eOp oIx (eVar 1) (eC (.int 2))) (aCons (eC (.int 1)) (aCons (eOp oSub (eVar 2) (eOp oIx (eVar 1) (eC (.int 0)))) aNil))))) (eNot (eCall G_is_among (aCons (eOp oIx (eVar 1) (eC (.int 3))) (aCons (eC (.int 1)) (aCons (eOp oSub (eVar 2) (eOp oIx (eVar 1) (eC (.int 1)))) aNil)))))) sNever sNext)))
def G_need_field : List Dt → Option Dt := runF F_need_field 3 2
theorem G_need_field_ap (x0 x1 : Dt) : G_need_field [x0, x1] = (F_need_field [some (.d x0), some (.d x1), none]).bind outD := rfl
/-- many(size 0, pose 1, field 2, number 3, found 4, x 5, y 6, here 7, level 8, last 9, digit 10, right 11, up 12, inner 13) -/
def B_many_1 : FS :=
  (sSeq (sAsg (gTp [13, 11, 12]) (eCall G_quarter (aCons (eVar 7) (aCons (eVar 10) aNil))))
    (sAsg (gNm 4) (eOp oAdd (eVar 4) (eCall G_common (aCons (eVar 2) (aCons (eOp oAdd (eVar 5) (eOp oShl (eVar 11) (eVar 8))) (aCons (eOp oAdd (eVar 6) (eOp oShl (eVar 12) (eVar 8))) (aCons (eOp oShl (eC (.int 1)) (eVar 8)) aNil))))))))
def B_many_2 : FS :=
  (sSeq (sAsg (gNm 9) (eOp oAnd (eOp oShr (eVar 3) (eOp oMul (eC (.int 2)) (eVar 8))) (eC (.int 3))))
    (sSeq (sFor (iRng1 (eVar 9)) (gNm 10) B_many_1)
    (sSeq (sAsg (gTp [7, 11, 12]) (eCall G_quarter (aCons (eVar 7) (aCons (eVar 9) aNil))))
    (sSeq (sAsg (gNm 5) (eOp oAdd (eVar 5) (eOp oShl (eVar 11) (eVar 8))))
    (sAsg (gNm 6) (eOp oAdd (eVar 6) (eOp oShl (eVar 12) (eVar 8))))))))
def F_many : FS :=
  (sSeq (sDrop (eCall G_need_size (aCons (eVar 0) aNil)))
    (sSeq (sDrop (eCall G_need_pose (aCons (eVar 1) aNil)))
    (sSeq (sDrop (eCall G_need_field (aCons (eVar 0) (aCons (eVar 2) aNil))))
    (sSeq (sDrop (eCall G_need_number (aCons (eVar 3) (aCons (eCall G_cells_of (aCons (eVar 0) aNil)) aNil))))
    (sSeq (sIf (eOp oEq (eVar 3) (eCall G_cells_of (aCons (eVar 0) aNil))) (sRet (eOp oMul (eOp oIx (eVar 2) (eC (.int 2))) (eOp oIx (eVar 2) (eC (.int 3))))) sNext)
    (sSeq (sAsg (gNm 4) (eC (.int 0)))
    (sSeq (sAsg (gNm 5) (eC (.int 0)))
    (sSeq (sAsg (gNm 6) (eC (.int 0)))
    (sSeq (sAsg (gNm 7) (eVar 1))
    (sSeq (sFor (iRev1 (eVar 0)) (gNm 8) B_many_2)
    (sRet (eVar 4))))))))))))
def G_many : List Dt → Option Dt := runF F_many 14 4
theorem G_many_ap (x0 x1 x2 x3 : Dt) : G_many [x0, x1, x2, x3] = (F_many [some (.d x0), some (.d x1), some (.d x2), some (.d x3), none, none, none, none, none, none, none, none, none, none]).bind outD := rfl
/-- cell_in(size 0, pose 1, field 2, place 3, x 4, y 5, here 6, level 7, digit 8, inner 9, right 10, up 11, own 12) -/
def B_cell_in_1 : FS :=
  (sSeq (sAsg (gTp [9, 10, 11]) (eCall G_quarter (aCons (eVar 6) (aCons (eVar 8) aNil))))
    (sSeq (sAsg (gNm 12) (eCall G_common (aCons (eVar 2) (aCons (eOp oAdd (eVar 4) (eOp oShl (eVar 10) (eVar 7))) (aCons (eOp oAdd (eVar 5) (eOp oShl (eVar 11) (eVar 7))) (aCons (eOp oShl (eC (.int 1)) (eVar 7)) aNil))))))
    (sSeq (sIf (eOp oLt (eVar 3) (eVar 12)) (sSeq (sAsg (gNm 6) (eVar 9))
    (sSeq (sAsg (gNm 4) (eOp oAdd (eVar 4) (eOp oShl (eVar 10) (eVar 7))))
    (sSeq (sAsg (gNm 5) (eOp oAdd (eVar 5) (eOp oShl (eVar 11) (eVar 7))))
    sBreak))) sNext)
    (sAsg (gNm 3) (eOp oSub (eVar 3) (eVar 12))))))
def B_cell_in_2 : FS :=
  (sFor (iRng1 (eC (.int 4))) (gNm 8) B_cell_in_1)
def F_cell_in : FS :=
  (sSeq (sDrop (eCall G_need_size (aCons (eVar 0) aNil)))
    (sSeq (sDrop (eCall G_need_pose (aCons (eVar 1) aNil)))
    (sSeq (sDrop (eCall G_need_field (aCons (eVar 0) (aCons (eVar 2) aNil))))
    (sSeq (sDrop (eCall G_need_number (aCons (eVar 3) (aCons (eOp oSub (eOp oMul (eOp oIx (eVar 2) (eC (.int 2))) (eOp oIx (eVar 2) (eC (.int 3)))) (eC (.int 1))) aNil))))
    (sSeq (sAsg (gNm 4) (eC (.int 0)))
    (sSeq (sAsg (gNm 5) (eC (.int 0)))
    (sSeq (sAsg (gNm 6) (eVar 1))
    (sSeq (sFor (iRev1 (eVar 0)) (gNm 7) B_cell_in_2)
    (sRet (eTup (aCons (eVar 4) (aCons (eVar 5) aNil))))))))))))
def G_cell_in : List Dt → Option Dt := runF F_cell_in 13 4
theorem G_cell_in_ap (x0 x1 x2 x3 : Dt) : G_cell_in [x0, x1, x2, x3] = (F_cell_in [some (.d x0), some (.d x1), some (.d x2), some (.d x3), none, none, none, none, none, none, none, none, none]).bind outD := rfl
/-- _law_due(_law_size_here 0, _law_pose_here 1, _law_field_here 2, _law_cells 3, _law_found 4, _law_number 5, _law_k 6, _law_spot 7) -/
def B_law_due_1 : FS :=
  (sIf (eFz (eAnd (eOp oNe (eVar 4) (eLst aNil)) (eOp oEq (eOp oAdd (eOp oIx (eOp oIx (eVar 4) (eUn oNeg (eC (.int 1)))) (eC (.int 1))) (eC (.int 1))) (eVar 5)))) (sPutLast 4 (eTup (aCons (eFz (eOp oIx (eOp oIx (eVar 4) (eUn oNeg (eC (.int 1)))) (eC (.int 0)))) (aCons (eVar 5) aNil)))) (sDropM (mApp 4 (eTup (aCons (eVar 5) (aCons (eVar 5) aNil))))))
def F_law_due : FS :=
  (sSeq (sAsg (gNm 3) (eLc (iRng1 (eOp oMul (eOp oIx (eVar 2) (eC (.int 2))) (eOp oIx (eVar 2) (eC (.int 3))))) (gNm 6) eYes (eTup (aCons (eOp oAdd (eOp oIx (eVar 2) (eC (.int 0))) (eOp oDiv (eVar 6) (eOp oIx (eVar 2) (eC (.int 3))))) (aCons (eOp oAdd (eOp oIx (eVar 2) (eC (.int 1))) (eOp oMod (eVar 6) (eOp oIx (eVar 2) (eC (.int 3))))) aNil))) [6]))
    (sSeq (sOwn 4 aNil)
    (sSeq (sFor (iList (eCall (c1 oSorted) (aCons (eLc (iList (eVar 3)) (gNm 7) eYes (eCall G_law_numbered (aCons (eVar 0) (aCons (eVar 1) (aCons (eVar 7) aNil)))) [7]) aNil))) (gNm 5) B_law_due_1)
    (sRetO 4))))
def G_law_due : List Dt → Option Dt := runF F_law_due 8 3
theorem G_law_due_ap (x0 x1 x2 : Dt) : G_law_due [x0, x1, x2] = (F_law_due [some (.d x0), some (.d x1), some (.d x2), none, none, none, none, none]).bind outD := rfl
def H_law_due : List Dt → Option (List Dt) := runO F_law_due 8 3
theorem H_law_due_ap (x0 x1 x2 : Dt) : H_law_due [x0, x1, x2] = (F_law_due [some (.d x0), some (.d x1), some (.d x2), none, none, none, none, none]).bind outO := rfl
/-- _law_great_good(_law_size_here 0, _law_pose_here 1, _law_field_here 2, _law_found 3, _law_last 4, _law_total 5, _law_one 6, _law_number 7) -/
def B_law_great_good_1 : FS :=
  (sIf (eOr (eNot (eCall G_law_whole (aCons (eVar 7) aNil))) (eNot (eCall G_law_is_in (aCons (eVar 2) (aCons (eCall G_law_walked (aCons (eVar 0) (aCons (eVar 1) (aCons (eVar 7) aNil)))) aNil))))) (sRet (eC (.bool false))) sNext)
def B_law_great_good_2 : FS :=
  (sSeq (sIf (eOr (eNot (eUn (oIs "tuple") (eVar 6))) (eOr (eOp oNe (eCall (c1 oLen) (aCons (eVar 6) aNil)) (eC (.int 2))) (eNot (eChain3 oLt oLe oLt (eOp oAdd (eVar 4) (eC (.int 1))) (eOp oIx (eVar 6) (eC (.int 0))) (eOp oIx (eVar 6) (eC (.int 1))) (eCall G_law_many (aCons (eVar 0) aNil)))))) (sRet (eC (.bool false))) sNext)
    (sSeq (sFor (iTup (eVar 6)) (gNm 7) B_law_great_good_1)
    (sSeq (sIf (eAnd (eOp oGt (eOp oIx (eVar 6) (eC (.int 0))) (eC (.int 0))) (eCall G_law_is_in (aCons (eVar 2) (aCons (eCall G_law_walked (aCons (eVar 0) (aCons (eVar 1) (aCons (eOp oSub (eOp oIx (eVar 6) (eC (.int 0))) (eC (.int 1))) aNil)))) aNil)))) (sRet (eC (.bool false))) sNext)
    (sSeq (sAsg (gNm 5) (eOp oAdd (eOp oSub (eOp oAdd (eVar 5) (eOp oIx (eVar 6) (eC (.int 1)))) (eOp oIx (eVar 6) (eC (.int 0)))) (eC (.int 1))))
    (sAsg (gNm 4) (eOp oIx (eVar 6) (eC (.int 1))))))))
def F_law_great_good : FS :=
  (sSeq (sAsg (gNm 4) (eUn oNeg (eC (.int 2))))
    (sSeq (sAsg (gNm 5) (eC (.int 0)))
    (sSeq (sFor (iList (eVar 3)) (gNm 6) B_law_great_good_2)
    (sSeq (sIf (eAnd (eOp oLt (eOp oAdd (eVar 4) (eC (.int 1))) (eCall G_law_many (aCons (eVar 0) aNil))) (eCall G_law_is_in (aCons (eVar 2) (aCons (eCall G_law_walked (aCons (eVar 0) (aCons (eVar 1) (aCons (eOp oAdd (eVar 4) (eC (.int 1))) aNil)))) aNil)))) (sRet (eC (.bool false))) sNext)
    (sRet (eOp oEq (eVar 5) (eOp oMul (eOp oIx (eVar 2) (eC (.int 2))) (eOp oIx (eVar 2) (eC (.int 3))))))))))
def G_law_great_good : List Dt → Option Dt := runF F_law_great_good 8 4
theorem G_law_great_good_ap (x0 x1 x2 x3 : Dt) : G_law_great_good [x0, x1, x2, x3] = (F_law_great_good [some (.d x0), some (.d x1), some (.d x2), some (.d x3), none, none, none, none]).bind outD := rfl
/-- put_stretch(found 0, first 1, last 2) -/
def tPut : FE := (eAnd (eOp oNe (eVar 0) (eLst aNil)) (eOp oEq (eOp oAdd (eOp oIx (eOp oIx (eVar 0) (eUn oNeg (eC (.int 1)))) (eC (.int 1))) (eC (.int 1))) (eVar 1)))
def d_MOST_WIDE : Dt := (.int 256)
/-- stretches(size 0, pose 1, field 2, found 3, waiting 4, x 5, y 6, level 7, here 8, first 9, own 10, digit 11, inner 12, right 13, up 14, side 15, spot 16) -/
noncomputable def B_stretches_1 : FS :=
  (sSeq (sAsg (gTp [12, 13, 14]) (eCall G_quarter (aCons (eVar 8) (aCons (eVar 11) aNil))))
    (sSeq (sAsg (gNm 15) (eOp oSub (eVar 7) (eC (.int 1))))
    (sSeq (sAsg (gNm 16) (eTup (aCons (eOp oAdd (eVar 5) (eOp oShl (eVar 13) (eVar 15))) (aCons (eOp oAdd (eVar 6) (eOp oShl (eVar 14) (eVar 15))) (aCons (eVar 15) (aCons (eVar 12) (aCons (eOp oAdd (eVar 9) (eOp oMul (eVar 11) (eCall G_cells_of (aCons (eVar 15) aNil)))) aNil)))))))
    (sDropM (mApp 4 (eVar 16))))))
noncomputable def B_stretches_2 : FS :=
  (sSeq (sAsgM (gTp [5, 6, 7, 8, 9]) (mPop 4))
    (sSeq (sAsg (gNm 10) (eCall G_common (aCons (eVar 2) (aCons (eVar 5) (aCons (eVar 6) (aCons (eOp oShl (eC (.int 1)) (eVar 7)) aNil))))))
    (sIf (eOp oEq (eVar 10) (eCall G_cells_of (aCons (eVar 7) aNil))) (sDropM (mCh 3 (gPut tPut) (aCons (eVar 9) (aCons (eOp oSub (eOp oAdd (eVar 9) (eVar 10)) (eC (.int 1))) aNil)))) (sIf (eOp oGt (eVar 10) (eC (.int 0))) (sFor (iTup (eTup (aCons (eC (.int 3)) (aCons (eC (.int 2)) (aCons (eC (.int 1)) (aCons (eC (.int 0)) aNil)))))) (gNm 11) B_stretches_1) sNext))))
noncomputable def F_stretches : FS :=
  (sSeq (sDrop (eCall G_need_size (aCons (eVar 0) aNil)))
    (sSeq (sDrop (eCall G_need_pose (aCons (eVar 1) aNil)))
    (sSeq (sDrop (eCall G_need_field (aCons (eVar 0) (aCons (eVar 2) aNil))))
    (sSeq (sIf (eOr (eOp oGt (eOp oIx (eVar 2) (eC (.int 2))) (eC d_MOST_WIDE)) (eOp oGt (eOp oIx (eVar 2) (eC (.int 3))) (eC d_MOST_WIDE))) sNever sNext)
    (sSeq (sOwn 3 aNil)
    (sSeq (sOwn 4 (aCons (eTup (aCons (eC (.int 0)) (aCons (eC (.int 0)) (aCons (eVar 0) (aCons (eVar 1) (aCons (eC (.int 0)) aNil)))))) aNil))
    (sSeq (sWhile (eFz (eOp oNe (eVar 4) (eLst aNil))) B_stretches_2)
    (sRetO 3))))))))
noncomputable def G_stretches : List Dt → Option Dt := runF F_stretches 17 3
theorem G_stretches_ap (x0 x1 x2 : Dt) : G_stretches [x0, x1, x2] = (F_stretches [some (.d x0), some (.d x1), some (.d x2), none, none, none, none, none, none, none, none, none, none, none, none, none, none]).bind outD := rfl
noncomputable def H_stretches : List Dt → Option (List Dt) := runO F_stretches 17 3
theorem H_stretches_ap (x0 x1 x2 : Dt) : H_stretches [x0, x1, x2] = (F_stretches [some (.d x0), some (.d x1), some (.d x2), none, none, none, none, none, none, none, none, none, none, none, none, none, none]).bind outO := rfl
/-- _law_counted_good(_law_size_here 0, _law_pose_here 1, _law_cell 2, _law_first 3, _law_last 4, _law_total 5, _law_level 6, _law_corner 7, _law_field_here 8) -/
noncomputable def B_law_counted_good_1 : FS :=
  (sSeq (sAsg (gNm 8) (eOp oAdd (eVar 7) (eTup (aCons (eCall G_law_side (aCons (eVar 6) aNil)) (aCons (eCall G_law_side (aCons (eVar 6) aNil)) aNil)))))
    (sSeq (sAsg (gNm 5) (eOp oAdd (eVar 5) (eCall G_many (aCons (eVar 0) (aCons (eVar 1) (aCons (eVar 8) (aCons (eOp oAdd (eVar 4) (eC (.int 1))) aNil)))))))
    (sAsg (gNm 5) (eOp oSub (eVar 5) (eCall G_many (aCons (eVar 0) (aCons (eVar 1) (aCons (eVar 8) (aCons (eVar 3) aNil)))))))))
noncomputable def F_law_counted_good : FS :=
  (sSeq (sAsg (gTl [3, 4]) (eCall (c1 oSorted) (aCons (eLst (aCons (eCall G_law_among (aCons (eVar 2) (aCons (eC (.int 74)) (aCons (eCall G_law_many (aCons (eVar 0) aNil)) aNil)))) (aCons (eCall G_law_among (aCons (eVar 2) (aCons (eC (.int 75)) (aCons (eCall G_law_many (aCons (eVar 0) aNil)) aNil)))) aNil))) aNil)))
    (sSeq (sAsg (gNm 5) (eC (.int 0)))
    (sSeq (sFor (iList (eCall G_squares_of (aCons (eVar 0) (aCons (eVar 1) (aCons (eVar 3) (aCons (eVar 4) aNil)))))) (gTp [6, 7]) B_law_counted_good_1)
    (sRet (eOp oEq (eVar 5) (eOp oAdd (eOp oSub (eVar 4) (eVar 3)) (eC (.int 1))))))))
noncomputable def G_law_counted_good : List Dt → Option Dt := runF F_law_counted_good 9 3
theorem G_law_counted_good_ap (x0 x1 x2 : Dt) : G_law_counted_good [x0, x1, x2] = (F_law_counted_good [some (.d x0), some (.d x1), some (.d x2), none, none, none, none, none, none]).bind outD := rfl
/-- _law_cut_good(_law_size_here 0, _law_pose_here 1, _law_field_here 2, _law_cell 3, _law_spot 4, _law_parts 5, _law_wide 6, _law_part 7) -/
def F_law_cut_good : FS :=
  (sSeq (sAsg (gNm 4) (eCall G_law_among (aCons (eVar 3) (aCons (eC (.int 71)) (aCons (eOp oAdd (eCall G_law_many (aCons (eVar 0) aNil)) (eC (.int 1))) aNil)))))
    (sSeq (sAsg (gNm 5) (eLst (aCons (eVar 2) aNil)))
    (sSeq (sIf (eOp oGt (eOp oIx (eVar 2) (eC (.int 2))) (eC (.int 1))) (sSeq (sAsg (gNm 6) (eOp oAdd (eC (.int 1)) (eCall G_law_among (aCons (eVar 3) (aCons (eC (.int 72)) (aCons (eOp oSub (eOp oIx (eVar 2) (eC (.int 2))) (eC (.int 1))) aNil))))))
    (sAsg (gNm 5) (eLst (aCons (eOp oAdd (eUn (oSlice none (some 2)) (eVar 2)) (eTup (aCons (eVar 6) (aCons (eOp oIx (eVar 2) (eC (.int 3))) aNil)))) (aCons (eTup (aCons (eOp oAdd (eOp oIx (eVar 2) (eC (.int 0))) (eVar 6)) (aCons (eOp oIx (eVar 2) (eC (.int 1))) (aCons (eOp oSub (eOp oIx (eVar 2) (eC (.int 2))) (eVar 6)) (aCons (eOp oIx (eVar 2) (eC (.int 3))) aNil))))) aNil))))) sNext)
    (sRet (eOp oEq (eCall (c1 oSum) (aCons (eLc (iList (eVar 5)) (gNm 7) eYes (eCall G_many (aCons (eVar 0) (aCons (eVar 1) (aCons (eVar 7) (aCons (eVar 4) aNil))))) [7]) aNil)) (eCall G_many (aCons (eVar 0) (aCons (eVar 1) (aCons (eVar 2) (aCons (eVar 4) aNil))))))))))
def G_law_cut_good : List Dt → Option Dt := runF F_law_cut_good 8 4
theorem G_law_cut_good_ap (x0 x1 x2 x3 : Dt) : G_law_cut_good [x0, x1, x2, x3] = (F_law_cut_good [some (.d x0), some (.d x1), some (.d x2), some (.d x3), none, none, none, none]).bind outD := rfl
/-- _law_square_good(_law_size_here 0, _law_pose_here 1, _law_square_here 2, _law_cell 3, _law_level 4, _law_corner 5, _law_side_here 6, _law_first 7, _law_last 8, _law_field_here 9, _law_place 10, _law_quarters 11, _law_told 12, _law_step 13, _law_half 14, _law_spots 15, _law_digit 16, _law_one 17, _law_k 18) -/
noncomputable def F_law_square_good : FS :=
  (sSeq (sAsg (gTp [4, 5]) (eVar 2))
    (sSeq (sAsg (gNm 6) (eCall G_law_side (aCons (eVar 4) aNil)))
    (sSeq (sAsg (gTp [7, 8]) (eCall G_stretch_of (aCons (eVar 0) (aCons (eVar 1) (aCons (eVar 2) aNil)))))
    (sSeq (sAsg (gNm 9) (eOp oAdd (eVar 5) (eTup (aCons (eVar 6) (aCons (eVar 6) aNil)))))
    (sSeq (sAsg (gNm 10) (eCall G_law_among (aCons (eVar 3) (aCons (eC (.int 70)) (aCons (eCall G_law_many (aCons (eVar 4) aNil)) aNil)))))
    (sSeq (sIf (eOp oNe (eCall G_cell_in (aCons (eVar 0) (aCons (eVar 1) (aCons (eVar 9) (aCons (eVar 10) aNil))))) (eCall G_cell_at (aCons (eVar 0) (aCons (eVar 1) (aCons (eOp oAdd (eVar 7) (eVar 10)) aNil))))) (sRet (eC (.bool false))) sNext)
    (sSeq (sIf (eOr (eOp oNe (eCall G_many (aCons (eVar 0) (aCons (eVar 1) (aCons (eVar 9) (aCons (eVar 7) aNil))))) (eC (.int 0))) (eOp oNe (eCall G_many (aCons (eVar 0) (aCons (eVar 1) (aCons (eVar 9) (aCons (eOp oAdd (eVar 8) (eC (.int 1))) aNil))))) (eCall G_law_many (aCons (eVar 4) aNil)))) (sRet (eC (.bool false))) sNext)
    (sSeq (sIf (eAnd (eOp oLt (eVar 4) (eC (.int 9))) (eOp oNe (eCall G_stretches (aCons (eVar 0) (aCons (eVar 1) (aCons (eVar 9) aNil)))) (eLst (aCons (eTup (aCons (eVar 7) (aCons (eVar 8) aNil))) aNil)))) (sRet (eC (.bool false))) sNext)
    (sSeq (sIf (eOp oEq (eVar 4) (eC (.int 0))) (sRet (eC (.bool true))) sNext)
    (sSeq (sAsg (gNm 11) (eLc (iRng1 (eC (.int 4))) (gNm 16) eYes (eCall G_square_at (aCons (eVar 0) (aCons (eVar 1) (aCons (eOp oSub (eVar 4) (eC (.int 1))) (aCons (eOp oAdd (eOp oDiv (eVar 7) (eCall G_law_many (aCons (eOp oSub (eVar 4) (eC (.int 1))) aNil))) (eVar 16)) aNil))))) [16]))
    (sSeq (sAsg (gNm 12) (eLc (iList (eVar 11)) (gNm 17) eYes (eCall G_stretch_of (aCons (eVar 0) (aCons (eVar 1) (aCons (eVar 17) aNil)))) [17]))
    (sSeq (sAsg (gNm 13) (eCall G_law_many (aCons (eOp oSub (eVar 4) (eC (.int 1))) aNil)))
    (sSeq (sIf (eOp oNe (eVar 12) (eLc (iRng1 (eC (.int 4))) (gNm 16) eYes (eTup (aCons (eOp oAdd (eVar 7) (eOp oMul (eVar 16) (eVar 13))) (aCons (eOp oSub (eOp oAdd (eOp oAdd (eVar 7) (eOp oMul (eVar 16) (eVar 13))) (eVar 13)) (eC (.int 1))) aNil))) [16])) (sRet (eC (.bool false))) sNext)
    (sSeq (sAsg (gNm 14) (eOp oDiv (eVar 6) (eC (.int 2))))
    (sSeq (sAsg (gNm 15) (eLc (iRng1 (eC (.int 4))) (gNm 18) eYes (eTup (aCons (eOp oAdd (eOp oIx (eVar 5) (eC (.int 0))) (eOp oMul (eOp oDiv (eVar 18) (eC (.int 2))) (eVar 14))) (aCons (eOp oAdd (eOp oIx (eVar 5) (eC (.int 1))) (eOp oMul (eOp oMod (eVar 18) (eC (.int 2))) (eVar 14))) aNil))) [18]))
    (sRet (eOp oEq (eCall (c1 oSorted) (aCons (eLc (iList (eVar 11)) (gNm 17) eYes (eOp oIx (eVar 17) (eC (.int 1))) [17]) aNil)) (eVar 15))))))))))))))))))
noncomputable def G_law_square_good : List Dt → Option Dt := runF F_law_square_good 19 4
theorem G_law_square_good_ap (x0 x1 x2 x3 : Dt) : G_law_square_good [x0, x1, x2, x3] = (F_law_square_good [some (.d x0), some (.d x1), some (.d x2), some (.d x3), none, none, none, none, none, none, none, none, none, none, none, none, none, none, none]).bind outD := rfl
/-- _law_field_laid(_law_size_here 0, _law_pose_here 1, _law_field_here 2, _law_one 3, _law_other 4, _law_x 5, _law_y 6) -/
def F_law_field_laid : FS :=
  (sSeq (sAsg (gNm 3) (eCall G_laid (aCons (eVar 0) (aCons (eVar 1) (aCons (eUn (oSlice none (some 2)) (eVar 2)) aNil)))))
    (sSeq (sAsg (gNm 4) (eCall G_laid (aCons (eVar 0) (aCons (eVar 1) (aCons (eTup (aCons (eOp oSub (eOp oAdd (eOp oIx (eVar 2) (eC (.int 0))) (eOp oIx (eVar 2) (eC (.int 2)))) (eC (.int 1))) (aCons (eOp oSub (eOp oAdd (eOp oIx (eVar 2) (eC (.int 1))) (eOp oIx (eVar 2) (eC (.int 3)))) (eC (.int 1))) aNil))) aNil)))))
    (sSeq (sPar [5, 6] (aCons (eCall (c2 oMin2) (aCons (eOp oIx (eVar 3) (eC (.int 0))) (aCons (eOp oIx (eVar 4) (eC (.int 0))) aNil))) (aCons (eCall (c2 oMin2) (aCons (eOp oIx (eVar 3) (eC (.int 1))) (aCons (eOp oIx (eVar 4) (eC (.int 1))) aNil))) aNil)))
    (sRet (eTup (aCons (eVar 5) (aCons (eVar 6) (aCons (eOp oAdd (eCall (c1 oAbs) (aCons (eOp oSub (eOp oIx (eVar 3) (eC (.int 0))) (eOp oIx (eVar 4) (eC (.int 0)))) aNil)) (eC (.int 1))) (aCons (eOp oAdd (eCall (c1 oAbs) (aCons (eOp oSub (eOp oIx (eVar 3) (eC (.int 1))) (eOp oIx (eVar 4) (eC (.int 1)))) aNil)) (eC (.int 1))) aNil)))))))))
def G_law_field_laid : List Dt → Option Dt := runF F_law_field_laid 7 3
theorem G_law_field_laid_ap (x0 x1 x2 : Dt) : G_law_field_laid [x0, x1, x2] = (F_law_field_laid [some (.d x0), some (.d x1), some (.d x2), none, none, none, none]).bind outD := rfl
/-- _law_stretch_good(_law_size_here 0, _law_pose_here 1, _law_small 2, _law_field_here 3, _law_cell 4, _law_found 5, _law_first 6, _law_last 7, _law_other 8, _law_total 9, _law_level 10, _law_corner 11, _law_ends 12) -/
noncomputable def B_law_stretch_good_1 : FS :=
  (sSeq (sAsg (gNm 12) (eTup (aCons (eOp oSub (eOp oAdd (eOp oIx (eVar 11) (eC (.int 0))) (eCall G_law_side (aCons (eVar 10) aNil))) (eC (.int 1))) (aCons (eOp oSub (eOp oAdd (eOp oIx (eVar 11) (eC (.int 1))) (eCall G_law_side (aCons (eVar 10) aNil))) (eC (.int 1))) aNil))))
    (sIf (eOr (eNot (eCall G_law_is_in (aCons (eVar 2) (aCons (eVar 11) aNil)))) (eNot (eCall G_law_is_in (aCons (eVar 2) (aCons (eVar 12) aNil))))) (sRet (eC (.bool false))) sNext))
noncomputable def B_law_stretch_good_2 : FS :=
  (sFor (iList (eCall G_squares_of (aCons (eVar 0) (aCons (eVar 1) (aCons (eVar 6) (aCons (eVar 7) aNil)))))) (gTp [10, 11]) B_law_stretch_good_1)
noncomputable def B_law_stretch_good_3 : FS :=
  (sSeq (sAsg (gNm 9) (eOp oAdd (eVar 9) (eCall G_many (aCons (eVar 0) (aCons (eVar 1) (aCons (eVar 2) (aCons (eOp oAdd (eVar 7) (eC (.int 1))) aNil)))))))
    (sAsg (gNm 9) (eOp oSub (eVar 9) (eCall G_many (aCons (eVar 0) (aCons (eVar 1) (aCons (eVar 2) (aCons (eVar 6) aNil))))))))
noncomputable def F_law_stretch_good : FS :=
  (sSeq (sAsg (gNm 5) (eCall G_stretches (aCons (eVar 0) (aCons (eVar 1) (aCons (eVar 2) aNil)))))
    (sSeq (sFor (iList (eUn (oSlice none (some 6)) (eVar 5))) (gTp [6, 7]) B_law_stretch_good_2)
    (sSeq (sAsg (gNm 8) (eCall G_law_pose (aCons (eCall G_law_mixed (aCons (eVar 4) (aCons (eC (.int 73)) aNil))) aNil)))
    (sSeq (sIf (eOp oNe (eCall G_stretches (aCons (eVar 0) (aCons (eCall G_joined (aCons (eVar 1) (aCons (eVar 8) aNil))) (aCons (eCall G_law_field_laid (aCons (eVar 0) (aCons (eVar 8) (aCons (eVar 2) aNil)))) aNil)))) (eVar 5)) (sRet (eC (.bool false))) sNext)
    (sSeq (sAsg (gNm 9) (eC (.int 0)))
    (sSeq (sFor (iList (eVar 5)) (gTp [6, 7]) B_law_stretch_good_3)
    (sSeq (sIf (eOp oNe (eVar 9) (eOp oMul (eOp oIx (eVar 2) (eC (.int 2))) (eOp oIx (eVar 2) (eC (.int 3))))) (sRet (eC (.bool false))) sNext)
    (sRet (eOp oEq (eCall G_many (aCons (eVar 0) (aCons (eVar 1) (aCons (eVar 3) (aCons (eCall G_law_many (aCons (eVar 0) aNil)) aNil))))) (eOp oMul (eOp oIx (eVar 3) (eC (.int 2))) (eOp oIx (eVar 3) (eC (.int 3)))))))))))))
noncomputable def G_law_stretch_good : List Dt → Option Dt := runF F_law_stretch_good 13 5
theorem G_law_stretch_good_ap (x0 x1 x2 x3 x4 : Dt) : G_law_stretch_good [x0, x1, x2, x3, x4] = (F_law_stretch_good [some (.d x0), some (.d x1), some (.d x2), some (.d x3), some (.d x4), none, none, none, none, none, none, none, none]).bind outD := rfl
end BL

set_option linter.all false
namespace BL
open PySem
def excs_k14 : List Str := ["BadNumber", "BadPose", "BadSize", "BadCell"]
def okC_k14 (c : String) : Bool := excs_k14.contains c
def tab_WAYS : List Way := [((0, 1), "up"), ((0, (-1)), "down"), (((-1), 0), "left"), ((1, 0), "right")]
def FX_need_number : FS :=
  (sIf (eNot (eCall G_is_among (aCons (eVar 0) (aCons (eC (.int 0)) (aCons (eVar 1) aNil))))) (sRaise "BadNumber") sNext)
def X_need_number : FX := runX FX_need_number 2 2
theorem X_need_number_ap (x0 x1 : Dt) : X_need_number [x0, x1] = (FX_need_number [some (.d x0), some (.d x1)]).bind outX := rfl
def FX_need_pose : FS :=
  (sIf (eOr (eNot (eUn (oIs "str") (eVar 0))) (eOp oNotIn (eVar 0) (eC d_POSES))) (sRaise "BadPose") sNext)
def X_need_pose : FX := runX FX_need_pose 1 1
theorem X_need_pose_ap (x0 : Dt) : X_need_pose [x0] = (FX_need_pose [some (.d x0)]).bind outX := rfl
def FX_need_size : FS :=
  (sIf (eNot (eCall G_is_among (aCons (eVar 0) (aCons (eC (.int 0)) (aCons (eC d_MOST_SIZE) aNil))))) (sRaise "BadSize") sNext)
def X_need_size : FX := runX FX_need_size 1 1
theorem X_need_size_ap (x0 : Dt) : X_need_size [x0] = (FX_need_size [some (.d x0)]).bind outX := rfl
def X_Stroll : FX := twoX X_need_size X_need_pose
def FX_cell_at : FS :=
  (sSeq (sDropX X_need_size (aCons (eVar 0) aNil))
    (sSeq (sDropX X_need_pose (aCons (eVar 1) aNil))
    (sSeq (sDropX X_need_number (aCons (eVar 2) (aCons (eOp oSub (eCall G_cells_of (aCons (eVar 0) aNil)) (eC (.int 1))) aNil)))
    (sSeq (sAsg (gTp [3, 4, 5]) (eCall G_come_to (aCons (eVar 0) (aCons (eVar 1) (aCons (eVar 2) (aCons (eC (.int 0)) aNil))))))
    (sRet (eTup (aCons (eVar 3) (aCons (eVar 4) aNil))))))))
def X_cell_at : FX := runX FX_cell_at 6 3
theorem X_cell_at_ap (x0 x1 x2 : Dt) : X_cell_at [x0, x1, x2] = (FX_cell_at [some (.d x0), some (.d x1), some (.d x2), none, none, none]).bind outX := rfl
def FX_Stroll_here : FS :=
  (sRet (eCall (okOf X_cell_at) (aCons (eFld 0 0) (aCons (eFld 0 1) (aCons (eFld 0 2) aNil)))))
def M_here : GM := runMR FX_Stroll_here 1 1
def MO_here : Nat → List Dt → List Dt → Option (List Dt) := runMO FX_Stroll_here 1 1
def MW_here : Nat → List Dt → List Dt → Option (List Dt) := runMW FX_Stroll_here 1 1
def d_MOST_WAYS : Dt := (.int 1000)
def B_Stroll_ways_1 : FS :=
  (sSeq (sAsg (gNm 5) (eCall (okOf X_cell_at) (aCons (eFld 0 0) (aCons (eFld 0 1) (aCons (eVar 4) aNil)))))
    (sSeq (sDropM (mApp 2 (eWay tab_WAYS (eTup (aCons (eOp oSub (eOp oIx (eVar 5) (eC (.int 0))) (eOp oIx (eVar 3) (eC (.int 0)))) (aCons (eOp oSub (eOp oIx (eVar 5) (eC (.int 1))) (eOp oIx (eVar 3) (eC (.int 1)))) aNil))))))
    (sAsg (gNm 3) (eVar 5))))
def FX_Stroll_ways : FS :=
  (sSeq (sIf (eNot (eCall G_is_among (aCons (eVar 1) (aCons (eC (.int 0)) (aCons (eC d_MOST_WAYS) aNil))))) (sRaise "BadNumber") sNext)
    (sSeq (sOwn 2 aNil)
    (sSeq (sAsg (gNm 3) (eMeth 0 M_here aNil))
    (sSeq (sFor (iRngW (eOp oAdd (eFld 0 2) (eC (.int 1))) (eOp oAdd (eCall (c2 oMin2) (aCons (eOp oAdd (eFld 0 2) (eVar 1)) (aCons (eOp oSub (eCall G_cells_of (aCons (eFld 0 0) aNil)) (eC (.int 1))) aNil))) (eC (.int 1)))) (gNm 4) B_Stroll_ways_1)
    (sRetO 2)))))
def M_ways : GM := runMR FX_Stroll_ways 6 2
def MO_ways : Nat → List Dt → List Dt → Option (List Dt) := runMO FX_Stroll_ways 6 2
def MW_ways : Nat → List Dt → List Dt → Option (List Dt) := runMW FX_Stroll_ways 6 2
def FX_Stroll_go : FS :=
  (sSeq (sIf (eOr (eNot (eUn (oIs "int") (eVar 1))) (eUn (oIs "bool") (eVar 1))) (sRaise "BadNumber") sNext)
    (sSeq (sIf (eNot (eChain oLe oLt (eC (.int 0)) (eOp oAdd (eFld 0 2) (eVar 1)) (eCall G_cells_of (aCons (eFld 0 0) aNil)))) (sRaise "BadNumber") sNext)
    (sPutFld 0 2 (eOp oAdd (eFld 0 2) (eVar 1)))))
def M_go : GM := runMR FX_Stroll_go 2 2
def MO_go : Nat → List Dt → List Dt → Option (List Dt) := runMO FX_Stroll_go 2 2
def MW_go : Nat → List Dt → List Dt → Option (List Dt) := runMW FX_Stroll_go 2 2
def FX_need_cell : FS :=
  (sIf (eNot (eCall G_is_cell (aCons (eVar 0) (aCons (eVar 1) aNil)))) (sRaise "BadCell") sNext)
def X_need_cell : FX := runX FX_need_cell 2 2
theorem X_need_cell_ap (x0 x1 : Dt) : X_need_cell [x0, x1] = (FX_need_cell [some (.d x0), some (.d x1)]).bind outX := rfl
def FX_number_of : FS :=
  (sSeq (sDropX X_need_size (aCons (eVar 0) aNil))
    (sSeq (sDropX X_need_pose (aCons (eVar 1) aNil))
    (sSeq (sDropX X_need_cell (aCons (eVar 0) (aCons (eVar 2) aNil)))
    (sRet (eOp oIx (eCall G_found_at (aCons (eVar 0) (aCons (eVar 1) (aCons (eVar 2) (aCons (eC (.int 0)) aNil))))) (eC (.int 0)))))))
def X_number_of : FX := runX FX_number_of 3 3
theorem X_number_of_ap (x0 x1 x2 : Dt) : X_number_of [x0, x1, x2] = (FX_number_of [some (.d x0), some (.d x1), some (.d x2)]).bind outX := rfl
def FX_Stroll_to : FS :=
  (sPutFldX 0 2 X_number_of (aCons (eFld 0 0) (aCons (eFld 0 1) (aCons (eVar 1) aNil))))
def M_to : GM := runMR FX_Stroll_to 2 2
def MO_to : Nat → List Dt → List Dt → Option (List Dt) := runMO FX_Stroll_to 2 2
def MW_to : Nat → List Dt → List Dt → Option (List Dt) := runMW FX_Stroll_to 2 2
def F_law_moved : FB :=
  (bSeq (bPure (sAsg (gNm 4) (eCall G_law_many (aCons (eBoxIx 1 (eC (.int 0))) aNil))))
    (bSeq (bIf (eOp oLt (eOp oMod (eVar 3) (eC (.int 3))) (eC (.int 2))) (bSeq (bPure (sAsg (gNm 6) (eOp oIx (eLst (aCons (eCall G_law_among (aCons (eVar 2) (aCons (eC (.int 90)) (aCons (eVar 4) aNil)))) (aCons (eC (.int 0)) (aCons (eOp oSub (eVar 4) (eC (.int 1))) (aCons (eCall (c2 oMin2) (aCons (eOp oSub (eVar 4) (eC (.int 1))) (aCons (eOp oAdd (eBoxIx 1 (eC (.int 2))) (eOp oMod (eOp oDiv (eVar 3) (eC (.int 6))) (eC (.int 30)))) aNil))) aNil))))) (eOp oMod (eOp oDiv (eVar 3) (eC (.int 3))) (eC (.int 4))))))
    (bSeq (bPure (sAsg (gNm 6) (eOp oIx (eLst (aCons (eVar 6) (aCons (eCall (c2 oMax2) (aCons (eC (.int 0)) (aCons (eOp oSub (eBoxIx 1 (eC (.int 2))) (eOp oMod (eOp oDiv (eVar 3) (eC (.int 9))) (eC (.int 30)))) aNil))) aNil))) (eOp oMod (eVar 3) (eC (.int 3))))))
    (bSeq (bPure (sAsg (gNm 7) (eOp oSub (eVar 6) (eBoxIx 1 (eC (.int 2))))))
    (bSeq (bPure (sPutBox 1 (eC (.int 2)) (eVar 6)))
    (bRetM (mIsNone (mMeth 0 MW_go (aCons (eVar 7) aNil)))))))) bNext)
    (bSeq (bPure (sAsg (gNm 5) (eTup (aCons (eCall G_law_among (aCons (eVar 2) (aCons (eC (.int 91)) (aCons (eCall G_law_side (aCons (eBoxIx 1 (eC (.int 0))) aNil)) aNil)))) (aCons (eCall G_law_among (aCons (eVar 2) (aCons (eC (.int 92)) (aCons (eCall G_law_side (aCons (eBoxIx 1 (eC (.int 0))) aNil)) aNil)))) aNil)))))
    (bSeq (bPure (sPutBox 1 (eC (.int 2)) (eCall G_law_numbered (aCons (eBoxIx 1 (eC (.int 0))) (aCons (eBoxIx 1 (eC (.int 1))) (aCons (eVar 5) aNil))))))
    (bRetM (mIsNone (mMeth 0 MW_to (aCons (eVar 5) aNil))))))))
def MB_law_moved : GB := runBW F_law_moved 8 4
def one_BadCell : Str → Bool := fun c => c == "BadCell"
def tab_BadCell : String → Option Bool := tabC excs_k14 one_BadCell
def one_BadPose : Str → Bool := fun c => c == "BadPose"
def tab_BadPose : String → Option Bool := tabC excs_k14 one_BadPose
def one_BadSize : Str → Bool := fun c => c == "BadSize"
def tab_BadSize : String → Option Bool := tabC excs_k14 one_BadSize
def one_BadSquare : Str → Bool := fun c => c == "BadSquare"
def tab_BadSquare : String → Option Bool := tabC excs_k14 one_BadSquare
def one_BadNumber : Str → Bool := fun c => c == "BadNumber"
def tab_BadNumber : String → Option Bool := tabC excs_k14 one_BadNumber
def one_TooGreat : Str → Bool := fun c => c == "TooGreat"
def tab_TooGreat : String → Option Bool := tabC excs_k14 one_TooGreat
def one_BadField : Str → Bool := fun c => c == "BadField"
def tab_BadField : String → Option Bool := tabC excs_k14 one_BadField
def one_ValueError : Str → Bool := fun _ => true
def tab_ValueError : String → Option Bool := tabC excs_k14 one_ValueError
def F_law_word : FS :=
  (sSeq (sIf (eIsNone 0) (sRet (eLst (aCons (eC (.str "done")) aNil))) sNext)
    (sSeq (sAsg (gNm 1) (eLst (aCons (eTup (aCons (eC (.str "size")) (aCons (eIsX tab_BadSize 0) aNil))) (aCons (eTup (aCons (eC (.str "pose")) (aCons (eIsX tab_BadPose 0) aNil))) (aCons (eTup (aCons (eC (.str "cell")) (aCons (eIsX tab_BadCell 0) aNil))) aNil)))))
    (sSeq (sAsg (gNm 1) (eOp oAdd (eVar 1) (eLst (aCons (eTup (aCons (eC (.str "number")) (aCons (eIsX tab_BadNumber 0) aNil))) (aCons (eTup (aCons (eC (.str "square")) (aCons (eIsX tab_BadSquare 0) aNil))) aNil)))))
    (sSeq (sAsg (gNm 1) (eOp oAdd (eVar 1) (eLst (aCons (eTup (aCons (eC (.str "field")) (aCons (eIsX tab_BadField 0) aNil))) (aCons (eTup (aCons (eC (.str "great")) (aCons (eIsX tab_TooGreat 0) aNil))) aNil)))))
    (sRet (eOp oAdd (eLc (iList (eVar 1)) (gTp [2, 3]) (eVar 3) (eVar 2) [2, 3]) (eRep (aCons (eC (.str "else")) aNil) (eCall (c1 oInt) (aCons (eNot (eIsX tab_ValueError 0)) aNil)))))))))
def W_law_word : Option String → Option Dt := runW F_law_word 4
def F_law_refused : FS :=
  (sSeq (sAsg (gNm 3) (eCall G_law_many (aCons (eOp oIx (eVar 1) (eC (.int 0))) aNil)))
    (sSeq (sAsg (gNm 4) (eOp oIx (eLst (aCons (eC (.bool true)) (aCons (eC .none) (aCons (eC (.str "1")) (aCons (eLst (aCons (eC (.int 1)) aNil)) (aCons (eTup (aCons (eC (.int 1)) aNil)) (aCons (eC (.dict [])) (aCons (eC (.bool false)) aNil)))))))) (eOp oMod (eOp oDiv (eVar 2) (eC (.int 4))) (eC (.int 7)))))
    (sSeq (sIf (eOp oEq (eOp oMod (eVar 2) (eC (.int 4))) (eC (.int 0))) (sSeq (sAsg (gNm 7) (eOp oIx (eLst (aCons (eVar 4) (aCons (eOp oSub (eVar 3) (eOp oIx (eVar 1) (eC (.int 2)))) (aCons (eOp oAdd (eOp oSub (eVar 3) (eOp oIx (eVar 1) (eC (.int 2)))) (eVar 2)) (aCons (eOp oSub (eUn oNeg (eC (.int 1))) (eOp oIx (eVar 1) (eC (.int 2)))) (aCons (eOp oSub (eOp oSub (eUn oNeg (eC (.int 1))) (eOp oIx (eVar 1) (eC (.int 2)))) (eVar 2)) aNil)))))) (eOp oMod (eOp oDiv (eVar 2) (eC (.int 28))) (eC (.int 5)))))
    (sRet (eOp oEq (eKW okC_k14 W_law_word (gRow M_go) (aObj 0 (aCons (eVar 7) aNil))) (eLst (aCons (eC (.str "number")) aNil))))) sNext)
    (sSeq (sIf (eOp oEq (eOp oMod (eVar 2) (eC (.int 4))) (eC (.int 1))) (sSeq (sAsg (gNm 7) (eOp oIx (eLst (aCons (eVar 4) (aCons (eUn oNeg (eC (.int 1))) (aCons (eC (.int 1001)) (aCons (eOp oAdd (eC (.int 1001)) (eVar 2)) (aCons (eOp oPow (eC (.int 10)) (eC (.int 20))) aNil)))))) (eOp oMod (eOp oDiv (eVar 2) (eC (.int 28))) (eC (.int 5)))))
    (sRet (eOp oEq (eKW okC_k14 W_law_word (gRow M_ways) (aObj 0 (aCons (eVar 7) aNil))) (eLst (aCons (eC (.str "number")) aNil))))) sNext)
    (sSeq (sAsg (gNm 5) (eCall G_law_side (aCons (eOp oIx (eVar 1) (eC (.int 0))) aNil)))
    (sSeq (sAsg (gNm 6) (eLst (aCons (eVar 4) (aCons (eTup (aCons (eVar 4) (aCons (eC (.int 0)) aNil))) (aCons (eTup (aCons (eC (.int 0)) (aCons (eVar 4) aNil))) (aCons (eTup (aCons (eVar 5) (aCons (eC (.int 0)) aNil))) (aCons (eTup (aCons (eC (.int 0)) (aCons (eVar 5) aNil))) (aCons (eTup (aCons (eUn oNeg (eC (.int 1))) (aCons (eC (.int 0)) aNil))) (aCons (eLst (aCons (eC (.int 0)) (aCons (eC (.int 0)) aNil))) (aCons (eTup (aCons (eC (.int 0)) aNil)) (aCons (eTup (aCons (eC (.int 0)) (aCons (eC (.int 0)) (aCons (eC (.int 0)) aNil)))) (aCons (eTup (aCons (eC (.int 0)) (aCons (eOp oAdd (eVar 5) (eVar 2)) aNil))) aNil))))))))))))
    (sRet (eOp oEq (eKW okC_k14 W_law_word (gRow M_to) (aObj 0 (aCons (eOp oIx (eVar 6) (eOp oMod (eOp oDiv (eVar 2) (eC (.int 28))) (eC (.int 10)))) aNil))) (eLst (aCons (eC (.str "cell")) aNil))))))))))
def MT_law_refused : Nat → List Dt → List Dt → Option Dt := runMT F_law_refused 8 3
def FX_Stroll_number : FS :=
  (sRet (eFld 0 2))
def M_number : GM := runMR FX_Stroll_number 1 1
def MO_number : Nat → List Dt → List Dt → Option (List Dt) := runMO FX_Stroll_number 1 1
def MW_number : Nat → List Dt → List Dt → Option (List Dt) := runMW FX_Stroll_number 1 1
def B_law_ways_1 : FS :=
  (sSeq (sAsg (gNm 7) (eCall G_law_walked (aCons (eVar 0) (aCons (eVar 1) (aCons (eVar 6) aNil)))))
    (sSeq (sAsg (gNm 8) (eTup (aCons (eOp oSub (eOp oIx (eVar 7) (eC (.int 0))) (eOp oIx (eVar 5) (eC (.int 0)))) (aCons (eOp oSub (eOp oIx (eVar 7) (eC (.int 1))) (eOp oIx (eVar 5) (eC (.int 1)))) aNil))))
    (sSeq (sDropM (mApp 4 (eWay [((1, 0), "right"), (((-1), 0), "left"), ((0, 1), "up"), ((0, (-1)), "down")] (eVar 8))))
    (sAsg (gNm 5) (eVar 7)))))
def F_law_ways : FS :=
  (sSeq (sOwn 4 aNil)
    (sSeq (sAsg (gNm 5) (eCall G_law_walked (aCons (eVar 0) (aCons (eVar 1) (aCons (eVar 2) aNil)))))
    (sSeq (sFor (iRngW (eOp oAdd (eVar 2) (eC (.int 1))) (eOp oAdd (eCall (c2 oMin2) (aCons (eOp oAdd (eVar 2) (eVar 3)) (aCons (eOp oSub (eCall G_law_many (aCons (eVar 0) aNil)) (eC (.int 1))) aNil))) (eC (.int 1)))) (gNm 6) B_law_ways_1)
    (sRetO 4))))
def G_law_ways : List Dt → Option Dt := runF F_law_ways 9 4
theorem G_law_ways_ap (x0 x1 x2 x3 : Dt) : G_law_ways [x0, x1, x2, x3] = (F_law_ways [some (.d x0), some (.d x1), some (.d x2), some (.d x3), none, none, none, none, none]).bind outD := rfl
def H_law_ways : List Dt → Option (List Dt) := runO F_law_ways 9 4
def B_law_right_1 : FS :=
  (sSeq (sAsg (gNm 4) (eOp oMod (eOp oAdd (eVar 2) (eOp oMul (eVar 3) (eOp oAdd (eC (.int 1)) (eOp oMul (eOp oMod (eOp oDiv (eVar 2) (eC (.int 4))) (eC (.int 2))) (eC (.int 2)))))) (eC (.int 4))))
    (sSeq (sIf (eAnd (eOp oEq (eVar 4) (eC (.int 0))) (eOr (eNot (eCall G_law_whole (aCons (eMeth 0 M_number aNil) aNil))) (eOp oNe (eMeth 0 M_number aNil) (eOp oIx (eVar 1) (eC (.int 2)))))) (sRet (eC (.bool false))) sNext)
    (sSeq (sIf (eAnd (eOp oEq (eVar 4) (eC (.int 1))) (eOp oNe (eMeth 0 M_here aNil) (eCall G_law_walked (aCons (eOp oIx (eVar 1) (eC (.int 0))) (aCons (eOp oIx (eVar 1) (eC (.int 1))) (aCons (eOp oIx (eVar 1) (eC (.int 2))) aNil)))))) (sRet (eC (.bool false))) sNext)
    (sIf (eOp oGt (eVar 4) (eC (.int 1))) (sSeq (sAsg (gNm 5) (eOp oMod (eOp oDiv (eVar 2) (eC (.int 16))) (eC (.int 5))))
    (sSeq (sOwnMeth 6 0 MO_ways (aCons (eVar 5) aNil))
    (sSeq (sIf (eFz (eOr (eNot (eUn (oIs "list") (eVar 6))) (eOp oNe (eVar 6) (eCall G_law_ways (aCons (eOp oIx (eVar 1) (eC (.int 0))) (aCons (eOp oIx (eVar 1) (eC (.int 1))) (aCons (eOp oIx (eVar 1) (eC (.int 2))) (aCons (eVar 5) aNil)))))))) (sRet (eC (.bool false))) sNext)
    (sDropM (mApp 6 (eC (.str "up"))))))) sNext))))
def F_law_right : FS :=
  (sSeq (sFor (iRng1 (eC (.int 4))) (gNm 3) B_law_right_1)
    (sRet (eC (.bool true))))
def M_law_right : GM := runMR F_law_right 7 3
noncomputable def B_law_k14_1 : FS :=
  (sIf (eNot (eBxF 3 2 (eVar 11) (eVar 11) M_law_right (aCons (eOp oDiv (eVar 9) (eC (.int 40))) aNil))) (sRet (eC (.bool false))) sNext)
noncomputable def B_law_k14_2 : FS :=
  (sSeq (sAsg (gNm 9) (eCall G_law_mixed (aCons (eVar 5) (aCons (eVar 4) aNil))))
    (sSeq (sAsg (gNm 10) (eOp oDiv (eOp oMod (eVar 9) (eC (.int 5))) (eC (.int 4))))
    (sSeq (sIf (eOp oEq (eOp oMod (eOp oDiv (eVar 9) (eC (.int 5))) (eC (.int 4))) (eC (.int 0))) (sIf (eNot (eBxT 3 2 (eVar 10) (eVar 10) MT_law_refused (aCons (eOp oDiv (eVar 9) (eC (.int 20))) aNil))) (sRet (eC (.bool false))) sNext) (sIfM (mNot (mBx 3 2 (eVar 10) (eVar 10) MB_law_moved (aCons (eVar 5) (aCons (eOp oDiv (eVar 9) (eC (.int 20))) aNil)))) (sRet (eC (.bool false))) sNext))
    (sFor (iList (eOp oUpTo (eLst (aCons (eVar 10) (aCons (eOp oSub (eC (.int 1)) (eVar 10)) aNil))) (eOp oAdd (eC (.int 1)) (eOp oMod (eOp oDiv (eVar 9) (eC (.int 20))) (eC (.int 2)))))) (gNm 11) B_law_k14_1))))
noncomputable def F_law_k14 : FS :=
  (sSeq (sAsg (gNm 1) (eCall (c1 oSum) (aCons (eLc (iEnum (eScr none (some 60) 0)) (gTp [4, 5]) eYes (eCall G_law_mixed (aCons (eVar 5) (aCons (eVar 4) aNil))) [4, 5]) aNil)))
    (sSeq (sBoxs 2 false (aLcB (iRng1 (eC (.int 2))) (gNm 4) (aFlat (aCons (eCall G_law_size (aCons (eOp oDiv (eVar 1) (eOp oAdd (eC (.int 1)) (eOp oMul (eC (.int 9)) (eVar 4)))) aNil)) (aCons (eCall G_law_pose (aCons (eOp oDiv (eVar 1) (eOp oAdd (eC (.int 8)) (eVar 4))) aNil)) (aCons (eC (.int 0)) aNil)))) [4]))
    (sSeq (sBoxs 3 true (fun r => (aLcB (iList (eVar 2)) (gNm 12) (aStroll X_Stroll (aCons (eOp oIx (eVar 12) (eC (.int 0))) (aCons (eOp oIx (eVar 12) (eC (.int 1))) aNil))) [12]) (freeze r)))
    (sSeq (sFor (iEnum (eScr none (some 60) 0)) (gTp [4, 5]) B_law_k14_2)
    (sSeq (sAsg (gNm 6) (eCall (c2 oMin2) (aCons (eOp oSub (eCall G_law_many (aCons (eBxIx 2 (eC (.int 0)) (eC (.int 0))) aNil)) (eC (.int 1))) (aCons (eC (.int 200)) aNil))))
    (sSeq (sAsg (gNm 7) (eIf (eOp oLt (eBxIx 2 (eC (.int 0)) (eC (.int 0))) (eC (.int 3))) (eBxM 3 (eC (.int 0)) M_ways (aCons (eC (.int 1000)) aNil)) (eBxM 3 (eC (.int 0)) M_ways (aCons (eVar 6) aNil))))
    (sSeq (sAsg (gNm 8) (eCall G_law_ways (aCons (eBxIx 2 (eC (.int 0)) (eC (.int 0))) (aCons (eBxIx 2 (eC (.int 0)) (eC (.int 1))) (aCons (eBxIx 2 (eC (.int 0)) (eC (.int 2))) (aCons (eOp oIx (eLst (aCons (eVar 6) (aCons (eC (.int 1000)) aNil))) (eCall (c1 oInt) (aCons (eOp oLt (eBxIx 2 (eC (.int 0)) (eC (.int 0))) (eC (.int 3))) aNil))) aNil))))))
    (sRet (eAnd (eOp oEq (eVar 7) (eVar 8)) (eAnd (eBxF 3 2 (eC (.int 0)) (eC (.int 0)) M_law_right (aCons (eVar 1) aNil)) (eBxF 3 2 (eC (.int 1)) (eC (.int 1)) M_law_right (aCons (eVar 1) aNil))))))))))))
noncomputable def G_law_k14 : List Dt → Option Dt := runL F_law_k14 13
end BL

set_option linter.all false
set_option maxRecDepth 100000
/-! What a def gives, the raising one gives too. -/
namespace BL
open PySem
def Up (F F' : FS) : Prop := ∀ r o, F r = some o → F' r = some o
def UpX (G : List Dt → Option Dt) (X : FX) : Prop := ∀ ds d, G ds = some d → X ds = some (.ok d)
theorem up_refl {F : FS} : Up F F := fun _ _ h => h
theorem up_never {F : FS} : Up sNever F := fun _ _ h => by cases h
theorem up_seq {A B A' B' : FS} (h1 : Up A A') (h2 : Up B B') : Up (sSeq A B) (sSeq A' B') := fun r o h => by
  unfold sSeq at h ⊢
  obtain ⟨o1, e1, h⟩ := Option.bind_eq_some_iff.mp h
  rw [h1 _ _ e1, Option.bind_some]
  cases o1 with
  | nx r1 => exact h2 _ _ h
  | _ => exact h
theorem up_if {t : FE} {A B A' B' : FS} (h1 : Up A A') (h2 : Up B B') : Up (sIf t A B) (sIf t A' B') := fun r o h => by
  unfold sIf at h ⊢
  obtain ⟨x, e1, h⟩ := Option.bind_eq_some_iff.mp h
  obtain ⟨k, e2, h⟩ := Option.bind_eq_some_iff.mp h
  rw [e1, Option.bind_some, e2, Option.bind_some]
  cases k with
  | true => exact h1 _ _ h
  | false => exact h2 _ _ h
theorem up_drop {G : List Dt → Option Dt} {X : FX} {t : FA} (h1 : UpX G X) : Up (sDrop (eCall G t)) (sDropX X t) := fun r o h => by
  unfold sDrop eCall at h
  unfold sDropX
  obtain ⟨x, e1, h⟩ := Option.bind_eq_some_iff.mp h
  obtain ⟨ds, e2, e1⟩ := Option.bind_eq_some_iff.mp e1
  rw [e2, Option.bind_some, h1 _ _ e1, Option.bind_some]
  exact h
theorem upx_run {F F' : FS} {N p : Nat} (h : Up F F') : UpX (runF F N p) (runX F' N p) := fun ds d e => by
  unfold runF at e
  unfold runX
  split at e
  · rename_i hd
    rw [if_pos hd]
    obtain ⟨o, e1, e⟩ := Option.bind_eq_some_iff.mp e
    rw [h _ _ e1, Option.bind_some]
    cases o <;> first | (cases e; done) | (cases e; rfl)
  · cases e
end BL

set_option linter.all false
set_option maxRecDepth 100000
namespace BL
open PySem
theorem okMul_of {i j : Int} (h1 : -(2 ^ 240) < i) (h2 : i < 2 ^ 240) (h3 : -(2 ^ 240) < j) (h4 : j < 2 ^ 240) : okMul i j = true := by
  unfold okMul
  simp only [Bool.and_eq_true, decide_eq_true_eq]
  omega
@[simp] theorem oAdd_int {i j : Int} : oAdd (.int i) (.int j) = some (.int (i + j)) := rfl
@[simp] theorem oAdd_list {xs ys : List Dt} (h : sizeOk (xs.length + ys.length) = true) : oAdd (.list xs) (.list ys) = some (.list (xs ++ ys)) := by simp [oAdd, h]
@[simp] theorem oSub_int {i j : Int} : oSub (.int i) (.int j) = some (.int (i - j)) := rfl
@[simp] theorem oLt_int {i j : Int} : oLt (.int i) (.int j) = some (.bool (decide (i < j))) := rfl
@[simp] theorem oLe_int {i j : Int} : oLe (.int i) (.int j) = some (.bool (decide (i ≤ j))) := rfl
@[simp] theorem oGt_int {i j : Int} : oGt (.int i) (.int j) = some (.bool (decide (j < i))) := rfl
@[simp] theorem oGe_int {i j : Int} : oGe (.int i) (.int j) = some (.bool (decide (j ≤ i))) := rfl
@[simp] theorem oAnd_int {i j : Int} : oAnd (.int i) (.int j) = some (.int (Builtin.bitAnd i j)) := rfl
@[simp] theorem oIx_list {xs : List Dt} {i : Int} : oIx (.list xs) (.int i) = atD xs i := rfl
@[simp] theorem oIx_tup {xs : List Dt} {i : Int} : oIx (.tuple xs) (.int i) = atD xs i := rfl
@[simp] theorem oNeg_int {i : Int} : oNeg (.int i) = some (.int (-i)) := rfl
@[simp] theorem oAbs_int {i : Int} : oAbs (.int i) = some (.int (if i < 0 then -i else i)) := rfl
@[simp] theorem oLen_list {xs : List Dt} : oLen (.list xs) = some (.int xs.length) := rfl
@[simp] theorem oLen_tup {xs : List Dt} : oLen (.tuple xs) = some (.int xs.length) := rfl
@[simp] theorem oInt_int {i : Int} : oInt (.int i) = some (.int i) := rfl
@[simp] theorem oInt_bool {i : Bool} : oInt (.bool i) = some (.int (if i then 1 else 0)) := rfl
@[simp] theorem oMin2_int {i j : Int} : oMin2 (.int i) (.int j) = some (.int (if j < i then j else i)) := rfl
@[simp] theorem oMax2_int {i j : Int} : oMax2 (.int i) (.int j) = some (.int (if j > i then j else i)) := rfl
@[simp] theorem c1_one {o : Dt → Option Dt} {d : Dt} : c1 o [d] = o d := rfl
@[simp] theorem c2_two {o : Dt → Dt → Option Dt} {d e : Dt} : c2 o [d, e] = o d e := rfl
@[simp] theorem oSl_list {l h : Option Int} {xs : List Dt} : oSlice l h (.list xs) = some (.list (cutD xs l h)) := rfl
@[simp] theorem oSl_tup {l h : Option Int} {xs : List Dt} : oSlice l h (.tuple xs) = some (.tuple (cutD xs l h)) := rfl
@[simp] theorem toB_bool (b : Bool) : toB (.bool b) = some b := rfl
theorem iList_of {a : FE} {r : Env} {xs : List Dt} (h : a r = some (.list xs)) : iList a r = some xs := by simp [iList, h]
theorem iTup_of {a : FE} {r : Env} {xs : List Dt} (h : a r = some (.tuple xs)) : iTup a r = some xs := by simp [iTup, h]
theorem iEnum_of {a : FE} {r : Env} {xs : List Dt} (h : a r = some (.list xs)) : iEnum a r = some (enumD 0 xs) := by simp [iEnum, h]
@[simp] theorem oMul_int {i j : Int} (h : okMul i j = true) : oMul (.int i) (.int j) = some (.int (i * j)) := by simp [oMul, h]
@[simp] theorem oDiv_int {i j : Int} (h : okDiv j = true) : oDiv (.int i) (.int j) = some (.int (i / j)) := by simp [oDiv, h]
@[simp] theorem oMod_int {i j : Int} (h : 0 < j) : oMod (.int i) (.int j) = some (.int (i % j)) := by simp [oMod, h]
@[simp] theorem oPow_int {i j : Int} (h : okShl i j = true) : oPow (.int i) (.int j) = some (.int (i ^ j.toNat)) := by simp [oPow, h]
@[simp] theorem oShl_int {i j : Int} (h : okShl i j = true) : oShl (.int i) (.int j) = some (.int (i * 2 ^ j.toNat)) := by simp [oShl, h]
@[simp] theorem oShr_int {i j : Int} (h : 0 ≤ j) : oShr (.int i) (.int j) = some (.int (i / 2 ^ j.toNat)) := by simp [oShr, h]

/-! ### the helpers of the laws -/
def mixed (c k : Int) : Int := (c % 1000000007 + 7919 * k + 11) % 1000003 * ((c % 1000000007 + 7919 * k + 11) % 1000003) % 1000003 * ((c % 1000000007 + 7919 * k + 11) % 1000003) % 1000003
theorem mixed_bd (c k : Int) : 0 ≤ mixed c k ∧ mixed c k < 1000003 := by unfold mixed; omega
theorem mixed_ok (c k : Int) (h : 0 ≤ k) (h2 : k ≤ 1000) : G_law_mixed [.int c, .int k] = some (.int (mixed c k)) := by
  have h1 : okMul 7919 k = true := okMul_of (by omega) (by omega) (by omega) (by omega)
  have h3 : ∀ x y : Int, okMul (x % 1000003) (y % 1000003) = true := fun x y => okMul_of (by omega) (by omega) (by omega) (by omega)
  rw [G_law_mixed_ap]
  simp [F_law_mixed, h1, h3, mixed]
theorem size_ok (n : Int) : ∃ s : Nat, s ≤ 40 ∧ G_law_size [.int n] = some (.int s) := by
  have hd : okDiv 8 = true := by decide
  have hs : sizeOk 8 = true := by decide
  obtain ⟨s, hs2⟩ : ∃ s : Nat, n / 8 % 41 = (s : Int) := ⟨(n / 8 % 41).toNat, by omega⟩
  have h : n % 8 = 0 ∨ n % 8 = 1 ∨ n % 8 = 2 ∨ n % 8 = 3 ∨ n % 8 = 4 ∨ n % 8 = 5 ∨ n % 8 = 6 ∨ n % 8 = 7 := by omega
  rcases h with h | h | h | h | h | h | h | h <;> simp [G_law_size_ap, F_law_size, hd, hs, h, atD, hs2]
  · exact ⟨40, by omega, rfl⟩
  · exact ⟨0, by omega, rfl⟩
  · exact ⟨1, by omega, rfl⟩
  · exact ⟨2, by omega, rfl⟩
  · exact ⟨s, by omega, rfl⟩
  · exact ⟨3, by omega, rfl⟩
  · exact ⟨s, by omega, rfl⟩
  · exact ⟨39, by omega, rfl⟩

/-! poses -/
inductive Pose where
  | plain | over | under | round
deriving DecidableEq
def Pose.s : Pose → Str
  | .plain => "plain" | .over => "over" | .under => "under" | .round => "round"
def Pose.d (p : Pose) : Dt := .str p.s
def pJoin : Pose → Pose → Pose
  | .plain, q => q
  | p, .plain => p
  | .over, .over => .plain | .under, .under => .plain | .round, .round => .plain
  | .over, .under => .round | .under, .over => .round | .over, .round => .under | .round, .over => .under | .under, .round => .over | .round, .under => .over
theorem pJoin_comm (p q : Pose) : pJoin p q = pJoin q p := by cases p <;> cases q <;> rfl
theorem pJoin_self (p : Pose) : pJoin p p = .plain := by cases p <;> rfl
/-- to which cell a pose lays one, m the side less 1 -/
def lay (p : Pose) (m : Int) (c : Int × Int) : Int × Int := match p with
  | .plain => (c.1, c.2)
  | .over => (c.2, c.1)
  | .under => (m - c.2, m - c.1)
  | .round => (m - c.1, m - c.2)
def ptD (c : Int × Int) : Dt := .tuple [.int c.1, .int c.2]
theorem pose_ok (n : Int) : ∃ p : Pose, G_law_pose [.int n] = some p.d := by
  have hs : sizeOk 4 = true := by decide
  have h : n % 4 = 0 ∨ n % 4 = 1 ∨ n % 4 = 2 ∨ n % 4 = 3 := by omega
  rcases h with h | h | h | h <;> simp [G_law_pose_ap, F_law_pose, hs, h, atD]
  · exact ⟨.plain, rfl⟩
  · exact ⟨.over, rfl⟩
  · exact ⟨.under, rfl⟩
  · exact ⟨.round, rfl⟩
theorem both_ok (p q : Pose) : G_both [p.d, q.d] = some (pJoin p q).d := by cases p <;> cases q <;> kernel_rfl
theorem led_ok (p : Pose) (m x y : Int) : G_led [p.d, .int m, .int x, .int y] = some (ptD (lay p m (x, y))) := by cases p <;> kernel_rfl
theorem law_laid_ok (p : Pose) (m x y : Int) : G_law_laid [p.d, .int m, .int x, .int y] = some (ptD (lay p (m - 1) (x, y))) := by cases p <;> kernel_rfl
theorem need_pose_ok (p : Pose) : G_need_pose [p.d] = some .none := by cases p <;> kernel_rfl
theorem joined_ok (p q : Pose) : G_joined [p.d, q.d] = some (pJoin p q).d := by
  rw [G_joined_ap]
  simp [F_joined, need_pose_ok, both_ok]
/-! powers -/
theorem okShl_of {n : Int} (h0 : 0 ≤ n) (h : n ≤ 1000) : okShl 1 n = true := by
  unfold okShl
  simp only [Bool.and_eq_true, decide_eq_true_eq]
  exact ⟨⟨h0, h⟩, by decide⟩
theorem side_ok (n : Nat) (h : n ≤ 1000) : G_law_side [.int n] = some (.int (2 ^ n)) := by
  have h1 : okShl 1 (n : Int) = true := okShl_of (by omega) (by omega)
  rw [G_law_side_ap]
  simp [F_law_side, h1]
theorem four_pow (n : Nat) : (4 : Int) ^ n = 2 ^ (2 * n) := by rw [Int.pow_mul]; rfl
theorem many_ok (n : Nat) (h : n ≤ 500) : G_law_many [.int n] = some (.int (4 ^ n)) := by
  have h1 : okShl 1 (2 * (n : Int)) = true := okShl_of (by omega) (by omega)
  have h2 : okMul 2 (n : Int) = true := okMul_of (by omega) (by omega) (by omega) (by omega)
  rw [G_law_many_ap]
  have e : (2 * (n : Int)).toNat = 2 * n := by omega
  simp [F_law_many, h1, h2, e, four_pow]
theorem cells_of_ok (n : Nat) (h : n ≤ 500) : G_cells_of [.int n] = some (.int (4 ^ n)) := by
  have h1 : okShl 1 (2 * (n : Int)) = true := okShl_of (by omega) (by omega)
  have h2 : okMul 2 (n : Int) = true := okMul_of (by omega) (by omega) (by omega) (by omega)
  rw [G_cells_of_ap]
  have e : (2 * (n : Int)).toNat = 2 * n := by omega
  simp [F_cells_of, h1, h2, e, four_pow]
/-! drawn numbers -/
theorem among_ok (c k b : Int) (h : 0 ≤ k) (h2 : k ≤ 900) (hb : 0 < b) : ∃ m : Int, 0 ≤ m ∧ m < b ∧ G_law_among [.int c, .int k, .int b] = some (.int m) := by
  have m1 := mixed_ok c k h (by omega)
  have m2 := mixed_ok c (k + 50) (by omega) (by omega)
  have b1 := mixed_bd c k
  have b2 := mixed_bd c (k + 50)
  have hs : sizeOk 6 = true := by decide
  have hd : okDiv 2 = true := by decide
  have hd7 : okDiv 7 = true := by decide
  have hp : okShl 10 40 = true := by decide
  have hp2 : okShl 1000003 5 = true := by decide
  have hp3 : okShl 1000003 3 = true := by decide
  have ho : ∀ X Y : Int, 0 < X → X < 2 ^ 200 → 0 < Y → Y < 2 ^ 200 → okMul (c % X) Y = true := fun X Y x1 x2 y1 y2 => by
    have := Int.emod_nonneg c (show X ≠ 0 by omega)
    have := Int.emod_lt_of_pos c x1
    exact okMul_of (by omega) (by omega) (by omega) (by omega)
  have ho2 : ∀ Y : Int, 0 < Y → Y < 2 ^ 200 → okMul (mixed c k) Y = true := fun Y y1 y2 => okMul_of (by omega) (by omega) (by omega) (by omega)
  generalize hm : mixed c k = m at *
  have hh : m / 7 % 6 = 0 ∨ m / 7 % 6 = 1 ∨ m / 7 % 6 = 2 ∨ m / 7 % 6 = 3 ∨ m / 7 % 6 = 4 ∨ m / 7 % 6 = 5 := by omega
  have ha := fun x : Int => Int.emod_nonneg x (show b ≠ 0 by omega)
  have hl := fun x : Int => Int.emod_lt_of_pos x hb
  rcases hh with h | h | h | h | h | h <;> simp [G_law_among_ap, F_law_among, m1, m2, hs, hd, hd7, hp, hp2, hp3, ho, ho2, hb, h, atD, ha, hl]
  all_goals omega
/-! truths -/
theorem whole_int (i : Int) : G_law_whole [.int i] = some (.bool true) := by
  rw [G_law_whole_ap]; simp [F_law_whole, oIs, isD, kindD]
@[simp] theorem okE_int (i : Int) : SeqAt.shaped (.int i) = true := by simp [SeqAt.shaped, PyData.canLay0, PyData.depth]
@[simp] theorem okE_bool (i : Bool) : SeqAt.shaped (.bool i) = true := by simp [SeqAt.shaped, PyData.canLay0, PyData.depth]
@[simp] theorem okE_pt (c : Int × Int) : SeqAt.shaped (ptD c) = true := by simp [ptD, SeqAt.shaped, PyData.canLay0, PyData.canLayAll0, PyData.depth, PyData.depthAll]
@[simp] theorem okE_pose (p : Pose) : SeqAt.shaped p.d = true := by cases p <;> kernel_rfl
@[simp] theorem eqv_pt (c d : Int × Int) : PyData.eqv (ptD c) (ptD d) = decide (c = d) := by
  obtain ⟨a, b⟩ := c
  obtain ⟨x, y⟩ := d
  show ((a == x) && ((b == y) && true)) = _
  by_cases h1 : a = x <;> by_cases h2 : b = y <;> simp [h1, h2]
@[simp] theorem eqv_pose (p q : Pose) : PyData.eqv p.d q.d = decide (p = q) := by cases p <;> cases q <;> kernel_rfl
@[simp] theorem eqv_int (i j : Int) : PyData.eqv (.int i) (.int j) = decide (i = j) := by
  show (i == j) = decide (i = j)
  by_cases h : i = j <;> simp [h]
theorem lay_lay (p q : Pose) (m : Int) (c : Int × Int) : lay p m (lay q m c) = lay (pJoin q p) m c := by
  obtain ⟨x, y⟩ := c
  cases p <;> cases q <;> simp [lay, pJoin] <;> omega
theorem lay_two (p : Pose) (m : Int) (c : Int × Int) : lay p m (lay p m c) = c := by
  rw [lay_lay, pJoin_self]; rfl

/-! ### the program's looks at what is handed in -/
theorem is_among_ok (a lo hi : Int) : G_is_among [.int a, .int lo, .int hi] = some (.bool (decide (lo ≤ a) && decide (a ≤ hi))) := by
  rw [G_is_among_ap]
  by_cases h : lo ≤ a <;> simp [F_is_among, oIs, isD, kindD, h]
def InSq (n : Nat) (c : Int × Int) : Prop := 0 ≤ c.1 ∧ c.1 < 2 ^ n ∧ 0 ≤ c.2 ∧ c.2 < 2 ^ n
theorem need_size_ok (n : Nat) (h : n ≤ 40) : G_need_size [.int n] = some .none := by
  rw [G_need_size_ap]
  have : (n : Int) ≤ 40 := by omega
  simp [F_need_size, is_among_ok, d_MOST_SIZE, this]
theorem is_cell_ok (n : Nat) (h : n ≤ 40) (c : Int × Int) (hc : InSq n c) : G_is_cell [.int n, ptD c] = some (.bool true) := by
  obtain ⟨x, y⟩ := c
  obtain ⟨h1, h2, h3, h4⟩ := hc
  have hs : okShl 1 (n : Int) = true := okShl_of (by omega) (by omega)
  have e1 : x ≤ 2 ^ n - 1 := by simp only at h2; omega
  have e2 : y ≤ 2 ^ n - 1 := by simp only at h4; omega
  simp only at h1 h3
  rw [G_is_cell_ap]
  simp [F_is_cell, ptD, oIs, isD, kindD, oNe, hs, atD, is_among_ok, e1, e2, h1, h3]
theorem need_cell_ok (n : Nat) (h : n ≤ 40) (c : Int × Int) (hc : InSq n c) : G_need_cell [.int n, ptD c] = some .none := by
  rw [G_need_cell_ap]
  simp [F_need_cell, is_cell_ok n h c hc]
theorem lay_in (p : Pose) (n : Nat) (c : Int × Int) (hc : InSq n c) : InSq n (lay p (2 ^ n - 1) c) := by
  obtain ⟨x, y⟩ := c
  obtain ⟨h1, h2, h3, h4⟩ := hc
  simp only at h1 h2 h3 h4
  cases p <;> simp only [lay, InSq] <;> omega
@[simp] theorem ix0 (c : Int × Int) : oIx (ptD c) (.int 0) = some (.int c.1) := by simp [ptD, atD]
@[simp] theorem ix1 (c : Int × Int) : oIx (ptD c) (.int 1) = some (.int c.2) := by simp [ptD, atD]
theorem laid_ok (n : Nat) (h : n ≤ 40) (p : Pose) (c : Int × Int) (hc : InSq n c) : G_laid [.int n, p.d, ptD c] = some (ptD (lay p (2 ^ n - 1) c)) := by
  have hs : okShl 1 (n : Int) = true := okShl_of (by omega) (by omega)
  rw [G_laid_ap]
  simp [F_laid, need_size_ok n h, need_pose_ok, need_cell_ok n h c hc, hs, led_ok]

/-! ### the laws' loop over the script -/
/-- the turn went through: n slots behind the script's -/
def Good (xs : List Dt) (n : Nat) : Option SOut → Prop
  | some (.nx (some (.scr ys) :: t)) => ys = xs ∧ t.length = n
  | _ => False
@[simp] theorem good_nx (xs : List Dt) (n : Nat) (ys : List Dt) (t : List (Option Sl)) : Good xs n (some (.nx (some (.scr ys) :: t))) = (ys = xs ∧ t.length = n) := rfl
theorem Good.nx {xs : List Dt} {n : Nat} : ∀ {o : Option SOut}, Good xs n o → ∃ t, t.length = n ∧ o = some (.nx (some (.scr xs) :: t))
  | some (.nx (some (.scr ys) :: t)), h => by
    obtain ⟨h1, h2⟩ := h
    subst h1
    exact ⟨t, h2, rfl⟩
theorem for_law (i j n : Nat) (sc : List Dt) (body : FS) (hb : ∀ (k : Nat) (c : Int) t, k < 70 → t.length = n → Good sc n (body (((some (.scr sc) :: t).set (i + 1) (some (.d (.int k)))).set (j + 1) (some (.d (.int c)))))) :
    ∀ (xs : List Int) (k : Nat) t, k + xs.length ≤ 70 → t.length = n → ∃ t', t'.length = n ∧ forGo (gTp [i + 1, j + 1]) body (enumD k (xs.map PyData.int)) (some (.scr sc) :: t) = some (.nx (some (.scr sc) :: t'))
  | [], k, t, _, h => ⟨t, h, rfl⟩
  | x :: xs, k, t, hk, h => by
    rw [List.length_cons] at hk
    obtain ⟨t1, h1, e1⟩ := (hb k x t (by omega) h).nx
    obtain ⟨t2, h2, e2⟩ := for_law i j n sc body hb xs (k + 1) t1 (by omega) h1
    refine ⟨t2, h2, ?_⟩
    rw [List.map_cons]
    unfold enumD forGo
    simp only [gTp, List.length_cons, List.length_nil, Nat.zero_add, if_true, List.zip_cons_cons, List.zip_nil_right, List.foldl_cons, List.foldl_nil, Option.bind_some, e1]
    exact e2
theorem cut_ints (ns : List Int) (n : Nat) : cutD (ns.map PyData.int) none (some n) = (ns.take n).map PyData.int := by
  have h : ¬ ((n : Int) < 0) := by omega
  simp [cutD, sIx, h, List.map_take, List.take_eq_take_iff]

theorem sz_of {n : Nat} (h : n ≤ 100000) : sizeOk n = true := by unfold sizeOk; simp; omega
/-- enumerate([c] + script[:n]) -/
theorem enum_script (c : Int) (n : Nat) (hn : n ≤ 100) (ns : List Int) (t : List (Option Sl)) : iEnum (eOp oAdd (eLst (aCons (eC (.int c)) aNil)) (eScr none (some (n : Int)) 0)) (some (.scr (ns.map PyData.int)) :: t) = some (enumD 0 ((c :: ns.take n).map PyData.int)) := by
  refine iEnum_of ?_
  have h1 := cut_ints ns n
  have h2 : sizeOk 1 = true := by decide
  have h3 : oAdd (.list [.int c]) (.list ((ns.take n).map PyData.int)) = some (.list (.int c :: (ns.take n).map PyData.int)) := oAdd_list (sz_of (by simp; omega))
  show ((((some [PyData.int c]).bind fun xs => if sizeOk xs.length then some (.list xs) else none)).bind fun x => (some (PyData.list (cutD (ns.map PyData.int) none (some (n : Int))))).bind fun y => oAdd x y) = _
  rw [h1]
  simp only [Option.bind_some, List.length_cons, List.length_nil, Nat.zero_add, h2, if_true, h3, List.map_cons]

/-- for i, j in enumerate([c] + script[:m]): body -/
theorem law_loop (i j n : Nat) (c : Int) (m : Nat) (hm : m ≤ 60) (body : FS) (ns : List Int) (hb : ∀ (k : Nat) (c : Int) t, k < 70 → t.length = n → Good (ns.map PyData.int) n (body (((some (.scr (ns.map PyData.int)) :: t).set (i + 1) (some (.d (.int k)))).set (j + 1) (some (.d (.int c))))))
    (t : List (Option Sl)) (ht : t.length = n) : ∃ t', t'.length = n ∧ sFor (iEnum (eOp oAdd (eLst (aCons (eC (.int c)) aNil)) (eScr none (some (m : Int)) 0))) (gTp [i + 1, j + 1]) body (some (.scr (ns.map PyData.int)) :: t) = some (.nx (some (.scr (ns.map PyData.int)) :: t')) := by
  obtain ⟨t', h1, h2⟩ := for_law i j n (ns.map PyData.int) body hb (c :: ns.take m) 0 t (by simp; omega) ht
  refine ⟨t', h1, ?_⟩
  unfold sFor
  rw [enum_script c m (by omega) ns t]
  exact h2

theorem forGo_nx {g : TGD} {b : FS} {x : Dt} {xs : List Dt} {r r1 r2 : Env} (hg : g x r = some r1) (hb : b r1 = some (.nx r2)) : forGo g b (x :: xs) r = forGo g b xs r2 := by
  conv => lhs; unfold forGo
  rw [hg, Option.bind_some, hb, Option.bind_some]
theorem forGo_bk {g : TGD} {b : FS} {x : Dt} {xs : List Dt} {r r1 r2 : Env} (hg : g x r = some r1) (hb : b r1 = some (.bk r2)) : forGo g b (x :: xs) r = some (.nx r2) := by
  conv => lhs; unfold forGo
  rw [hg, Option.bind_some, hb, Option.bind_some]
theorem forGo_rt {g : TGD} {b : FS} {x d : Dt} {xs : List Dt} {r r1 : Env} (hg : g x r = some r1) (hb : b r1 = some (.rt d)) : forGo g b (x :: xs) r = some (.rt d) := by
  conv => lhs; unfold forGo
  rw [hg, Option.bind_some, hb, Option.bind_some]
@[simp] theorem forGo_nil {g : TGD} {b : FS} {r : Env} : forGo g b [] r = some (.nx r) := rfl

/-! more looks -/
theorem notIn_pose (p : Pose) : oNotIn p.d d_POSES = some (.bool false) := by cases p <;> kernel_rfl
theorem is_str_pose (p : Pose) : oIs "str" p.d = some (.bool true) := by cases p <;> kernel_rfl
@[simp] theorem is_tup_pt (c : Int × Int) : oIs "tuple" (ptD c) = some (.bool true) := rfl
@[simp] theorem is_tup (xs : List Dt) : oIs "tuple" (.tuple xs) = some (.bool true) := rfl
@[simp] theorem is_list (xs : List Dt) : oIs "list" (.list xs) = some (.bool true) := rfl
theorem plain_d : PyData.str "plain" = Pose.plain.d := rfl
@[simp] theorem oNe_pt (c d : Int × Int) : oNe (ptD c) (ptD d) = some (.bool (!decide (c = d))) := by simp [oNe]
@[simp] theorem oEq_pt (c d : Int × Int) : oEq (ptD c) (ptD d) = some (.bool (decide (c = d))) := by simp [oEq]
@[simp] theorem oNe_int (i j : Int) : oNe (.int i) (.int j) = some (.bool (!decide (i = j))) := by simp [oNe]
@[simp] theorem oEq_int (i j : Int) : oEq (.int i) (.int j) = some (.bool (decide (i = j))) := by simp [oEq]
theorem turns2 : rngD 0 2 = [.int 0, .int 1] := rfl
end BL

set_option linter.all false
set_option maxRecDepth 100000
namespace BL
open PySem
/-! ### the walk in plain numbers -/
/-- the quarter of a digit: where it lies in the plain pose, and the pose within it -/
def qSpot : Nat → Int × Int
  | 0 => (0, 0) | 1 => (0, 1) | 2 => (1, 1) | _ => (1, 0)
def qPose : Nat → Pose
  | 0 => .over | 1 => .plain | 2 => .plain | _ => .under
/-- in a pose -/
def spot (p : Pose) (d : Nat) : Int × Int := lay p 1 (qSpot d)
def inner (p : Pose) (d : Nat) : Pose := pJoin p (qPose d)
/-- the corner of the net square of level lvl that the number k lies in, m levels down, and the pose within it -/
def come (lvl : Nat) : Nat → Pose → Nat → (Int × Int) × Pose
  | 0, p, _ => ((0, 0), p)
  | m + 1, p, k =>
    let d := k / 4 ^ (lvl + m) % 4
    let r := come lvl m (inner p d) k
    (((spot p d).1 * 2 ^ (lvl + m) + r.1.1, (spot p d).2 * 2 ^ (lvl + m) + r.1.2), r.2)
def cell (n : Nat) (p : Pose) (k : Nat) : Int × Int := (come 0 n p k).1
theorem come_succ (lvl m : Nat) (p : Pose) (k : Nat) : come lvl (m + 1) p k = (((spot p (k / 4 ^ (lvl + m) % 4)).1 * 2 ^ (lvl + m) + (come lvl m (inner p (k / 4 ^ (lvl + m) % 4)) k).1.1, (spot p (k / 4 ^ (lvl + m) % 4)).2 * 2 ^ (lvl + m) + (come lvl m (inner p (k / 4 ^ (lvl + m) % 4)) k).1.2), (come lvl m (inner p (k / 4 ^ (lvl + m) % 4)) k).2) := rfl
theorem quarter_ok (p : Pose) (d : Nat) (h : d < 4) : G_quarter [p.d, .int d] = some (.tuple [(inner p d).d, .int (spot p d).1, .int (spot p d).2]) := by
  match d, h with
  | 0, _ => cases p <;> kernel_rfl
  | 1, _ => cases p <;> kernel_rfl
  | 2, _ => cases p <;> kernel_rfl
  | 3, _ => cases p <;> kernel_rfl

theorem rngU_succ (x : Int) (m : Nat) : rngU x (m + 1) = .int x :: rngU (x - 1) m := by
  unfold rngU
  rw [List.range_succ_eq_map, List.map_cons, List.map_map]
  congr 1
  · congr 1; omega
  · apply List.map_congr_left
    intro a _
    show PyData.int _ = PyData.int _
    congr 1
    simp only [Nat.succ_eq_add_one]
    omega
theorem dig_eq (k i : Nat) : Builtin.bitAnd ((k : Int) / 2 ^ (2 * (i : Int)).toNat) 3 = ((k / 4 ^ i % 4 : Nat) : Int) := by
  have e1 : (2 * (i : Int)).toNat = 2 * i := by omega
  rw [e1, ← four_pow, show ((4 : Int) ^ i) = ((4 ^ i : Nat) : Int) by rw [Int.natCast_pow]; rfl, ← Int.natCast_ediv]
  generalize k / 4 ^ i = x
  rw [PyProof.Rows.bitAnd_pp (by omega) (by omega)]
  congr 1
  show x &&& 3 = x % 4
  exact Nat.and_two_pow_sub_one_eq_mod x 2
theorem spot_bd (p : Pose) (d : Nat) : (0 ≤ (spot p d).1 ∧ (spot p d).1 ≤ 1) ∧ (0 ≤ (spot p d).2 ∧ (spot p d).2 ≤ 1) := by
  have h : ∀ q : Int × Int, ((0 ≤ q.1 ∧ q.1 ≤ 1) ∧ (0 ≤ q.2 ∧ q.2 ≤ 1)) → ((0 ≤ (lay p 1 q).1 ∧ (lay p 1 q).1 ≤ 1) ∧ (0 ≤ (lay p 1 q).2 ∧ (lay p 1 q).2 ≤ 1)) := fun q hq => by
    obtain ⟨x, y⟩ := q
    simp only at hq
    cases p <;> simp only [lay] <;> omega
  apply h
  unfold qSpot
  split <;> decide
theorem shl_bit {x : Int} (h : 0 ≤ x ∧ x ≤ 1) {n : Nat} (hn : n ≤ 1000) : okShl x n = true := by
  unfold okShl
  simp only [Bool.and_eq_true, decide_eq_true_eq]
  omega
@[simp] theorem oShl_nat {i : Int} {n : Nat} (h : okShl i n = true) : oShl (.int i) (.int n) = some (.int (i * 2 ^ n)) := by simp [oShl, h]
/-- the loop of come_to -/
theorem come_loop (lvl k : Nat) (s p0 l : Option Sl) : ∀ (m : Nat) (p : Pose) (X Y : Int) (a b c : Option Sl), lvl + m ≤ 400 →
    ∃ a' b' c', forGo (gNm 7) B_come_to_1 (rngU ((lvl : Int) + m - 1) m) [s, p0, some (.d (.int k)), l, some (.d (.int X)), some (.d (.int Y)), some (.d p.d), a, b, c] =
      some (.nx [s, p0, some (.d (.int k)), l, some (.d (.int (X + (come lvl m p k).1.1))), some (.d (.int (Y + (come lvl m p k).1.2))), some (.d (come lvl m p k).2.d), a', b', c'])
  | 0, p, X, Y, a, b, c, _ => ⟨a, b, c, by simp [rngU, forGo, come]⟩
  | m + 1, p, X, Y, a, b, c, h => by
    have e0 : (lvl : Int) + ((m + 1 : Nat) : Int) - 1 = ((lvl + m : Nat) : Int) := by omega
    have e1 : ((lvl + m : Nat) : Int) - 1 = (lvl : Int) + m - 1 := by omega
    have hd := dig_eq k (lvl + m)
    have hlt : k / 4 ^ (lvl + m) % 4 < 4 := Nat.mod_lt _ (by decide)
    have hq := quarter_ok p _ hlt
    have hs := spot_bd p (k / 4 ^ (lvl + m) % 4)
    have ec : come lvl (m + 1) p k = (((spot p (k / 4 ^ (lvl + m) % 4)).1 * 2 ^ (lvl + m) + (come lvl m (inner p (k / 4 ^ (lvl + m) % 4)) k).1.1, (spot p (k / 4 ^ (lvl + m) % 4)).2 * 2 ^ (lvl + m) + (come lvl m (inner p (k / 4 ^ (lvl + m) % 4)) k).1.2), (come lvl m (inner p (k / 4 ^ (lvl + m) % 4)) k).2) := rfl
    rw [ec]
    generalize k / 4 ^ (lvl + m) % 4 = d at *
    have h1 := shl_bit hs.1 (n := lvl + m) (by omega)
    have h2 := shl_bit hs.2 (n := lvl + m) (by omega)
    have h3 : okMul 2 ((lvl + m : Nat) : Int) = true := okMul_of (by omega) (by omega) (by omega) (by omega)
    obtain ⟨a', b', c', ih⟩ := come_loop lvl k s p0 l m (inner p d) (X + (spot p d).1 * 2 ^ (lvl + m)) (Y + (spot p d).2 * 2 ^ (lvl + m)) (some (.d (.int ((lvl + m : Nat) : Int)))) (some (.d (.int (spot p d).1))) (some (.d (.int (spot p d).2))) (by omega)
    refine ⟨a', b', c', ?_⟩
    rw [e0, rngU_succ, e1]
    generalize lvl + m = i at *
    have h4 : 0 ≤ 2 * (i : Int) := by omega
    rw [forGo_nx (r1 := [s, p0, some (.d (.int k)), l, some (.d (.int X)), some (.d (.int Y)), some (.d p.d), some (.d (.int i)), b, c]) rfl
      (r2 := [s, p0, some (.d (.int k)), l, some (.d (.int (X + (spot p d).1 * 2 ^ i))), some (.d (.int (Y + (spot p d).2 * 2 ^ i))), some (.d (inner p d).d), some (.d (.int i)), some (.d (.int (spot p d).1)), some (.d (.int (spot p d).2))])
      (by simp [B_come_to_1, h3, h4, hd, hq, h1, h2]), ih]
    simp only [Int.add_assoc]

theorem okRng_nat {n : Nat} (h : n ≤ 1000000) : okRng (n : Int) = true := Nat.ble_eq_true_of_le (by omega)
theorem iRev2_of {a b : FE} {r : Env} {lo n : Nat} (ha : a r = some (.int lo)) (hb : b r = some (.int ((lo + n : Nat) : Int))) (h : lo + n ≤ 1000) : iRev2 a b r = some (rngU ((lo : Int) + n - 1) n) := by
  have h1 : okRng (lo : Int) = true := okRng_nat (by omega)
  have h2 : okRng ((lo + n : Nat) : Int) = true := okRng_nat (by omega)
  have e : (((lo + n : Nat) : Int) - lo).toNat = n := by omega
  unfold iRev2
  rw [ha, Option.bind_some, hb, Option.bind_some]
  show (if (okRng (lo : Int) && okRng ((lo + n : Nat) : Int)) = true then some (rngU ((lo : Int) + (((((lo + n : Nat) : Int) - lo).toNat : Nat) : Int) - 1) (((lo + n : Nat) : Int) - lo).toNat) else none) = _
  rw [h1, h2, e]
  rfl
theorem iRng1_of {a : FE} {r : Env} {n : Nat} (ha : a r = some (.int n)) (h : n ≤ 1000000) : iRng1 a r = some (rngD 0 n) := by
  have h1 : okRng (n : Int) = true := okRng_nat h
  have e : (n : Int).toNat = n := by omega
  unfold iRng1
  rw [ha, Option.bind_some]
  show (if okRng (n : Int) = true then some (rngD 0 (n : Int).toNat) else none) = _
  rw [h1, e, if_pos rfl]
theorem come_to_ok (lvl m : Nat) (p : Pose) (k : Nat) (h : lvl + m ≤ 400) : G_come_to [.int ((lvl + m : Nat) : Int), p.d, .int k, .int lvl] =
    some (.tuple [.int (come lvl m p k).1.1, .int (come lvl m p k).1.2, (come lvl m p k).2.d]) := by
  obtain ⟨a, b, c, e⟩ := come_loop lvl k (some (.d (.int ((lvl + m : Nat) : Int)))) (some (.d p.d)) (some (.d (.int lvl))) m p 0 0 none none none h
  have hr := iRev2_of (a := eVar 3) (b := eVar 0) (r := [some (.d (.int ((lvl + m : Nat) : Int))), some (.d p.d), some (.d (.int k)), some (.d (.int lvl)), some (.d (.int 0)), some (.d (.int 0)), some (.d p.d), none, none, none]) rfl rfl (by omega)
  have hs : sizeOk 3 = true := by decide
  rw [G_come_to_ap]
  generalize ((lvl + m : Nat) : Int) = n at *
  simp [F_come_to, hr, e, hs]
theorem need_number_ok (x m : Int) (h : 0 ≤ x) (h2 : x ≤ m) : G_need_number [.int x, .int m] = some .none := by
  rw [G_need_number_ap]
  simp [F_need_number, is_among_ok, h, h2]
theorem cast4 (n : Nat) : ((4 ^ n : Nat) : Int) = 4 ^ n := by rw [Int.natCast_pow]; rfl
theorem cell_at_ok (n : Nat) (h : n ≤ 40) (p : Pose) (k : Nat) (hk : k < 4 ^ n) : G_cell_at [.int n, p.d, .int k] = some (ptD (cell n p k)) := by
  have h1 := come_to_ok 0 n p k (by omega)
  have h2 := need_number_ok (k : Int) (4 ^ n - 1) (by omega) (by rw [← cast4]; omega)
  have hs : sizeOk 2 = true := by decide
  rw [Nat.zero_add] at h1
  rw [G_cell_at_ap]
  simp only [Int.ofNat_zero, Int.natCast_zero] at h1
  simp [F_cell_at, need_size_ok n h, need_pose_ok, cells_of_ok n (by omega), h1, h2, hs, cell, ptD]
/-! the laws' own going, from the least quarters up -/
def tq (i : Nat) (d : Nat) (c : Int × Int) : Int × Int :=
  if d = 0 then (c.2, c.1) else if d = 3 then (2 * 2 ^ i - 1 - c.2, 2 ^ i - 1 - c.1) else (c.1 + 2 ^ i * ((d : Int) - 1), c.2 + 2 ^ i)
def wk : Nat → Nat → Int × Int
  | 0, _ => (0, 0)
  | i + 1, k => tq i (k / 4 ^ i % 4) (wk i k)
theorem rngD_succ (x : Int) (m : Nat) : rngD x (m + 1) = .int x :: rngD (x + 1) m := by
  unfold rngD
  rw [List.range_succ_eq_map, List.map_cons, List.map_map]
  congr 1
  · congr 1; omega
  · apply List.map_congr_left
    intro a _
    show PyData.int _ = PyData.int _
    congr 1
    simp only [Nat.succ_eq_add_one]
    omega
theorem two_le (i : Nat) (h : i ≤ 200) : (2 : Int) ^ i ≤ 2 ^ 200 := by
  have h1 : (2 : Nat) ^ i ≤ 2 ^ 200 := Nat.pow_le_pow_right (by decide) h
  have e : ∀ j : Nat, ((2 ^ j : Nat) : Int) = 2 ^ j := fun j => by rw [Int.natCast_pow]; rfl
  rw [← e, ← e]
  exact Int.ofNat_le.mpr h1
theorem two_pos (i : Nat) : (0 : Int) < 2 ^ i := Int.pow_pos (by decide)
theorem div4 (k i : Nat) : (k : Int) / 4 ^ i % 4 = ((k / 4 ^ i % 4 : Nat) : Int) := by
  rw [← cast4, ← Int.natCast_ediv]
  omega
theorem walk_loop (k : Nat) (s p : Option Sl) : ∀ (m i : Nat) (a b : Option Sl), i + m ≤ 100 → ∃ a' b', forGo (gNm 6) B_law_walked_1 (rngD (i : Int) m) [s, p, some (.d (.int k)), some (.d (.int (wk i k).1)), some (.d (.int (wk i k).2)), some (.d (.int (2 ^ i))), a, b] =
    some (.nx [s, p, some (.d (.int k)), some (.d (.int (wk (i + m) k).1)), some (.d (.int (wk (i + m) k).2)), some (.d (.int (2 ^ (i + m)))), a', b'])
  | 0, i, a, b, _ => ⟨a, b, rfl⟩
  | m + 1, i, a, b, h => by
    have hm := many_ok i (by omega)
    have h1 : okDiv (4 ^ i) = true := by
      unfold okDiv
      have := two_le (2 * i) (by omega)
      have := two_pos (2 * i)
      rw [four_pow]
      simp only [Bool.and_eq_true, decide_eq_true_eq]
      omega
    have hd := div4 k i
    have hlt : k / 4 ^ i % 4 < 4 := Nat.mod_lt _ (by decide)
    have t1 := two_le i (by omega)
    have t0 := two_pos i
    have h2 : okMul 2 (2 ^ i) = true := okMul_of (by omega) (by omega) (by omega) (by omega)
    have e1 : ((i : Int) + 1) = ((i + 1 : Nat) : Int) := by omega
    have e2 : i + (m + 1) = i + 1 + m := by omega
    have ew : wk (i + 1) k = tq i (k / 4 ^ i % 4) (wk i k) := rfl
    have e3 : (2 : Int) ^ (i + 1) = 2 * 2 ^ i := by rw [Int.pow_succ]; omega
    obtain ⟨a', b', ih⟩ := walk_loop k s p m (i + 1) (some (.d (.int i))) (some (.d (.int ((k / 4 ^ i % 4 : Nat) : Int)))) (by omega)
    refine ⟨a', b', ?_⟩
    rw [rngD_succ, e2, ← ih, e1]
    refine forGo_nx (r1 := [s, p, some (.d (.int k)), some (.d (.int (wk i k).1)), some (.d (.int (wk i k).2)), some (.d (.int (2 ^ i))), some (.d (.int i)), b]) rfl ?_
    rw [ew, e3]
    generalize k / 4 ^ i % 4 = d at *
    have h3 : okMul (2 ^ i) ((d : Int) - 1) = true := okMul_of (by omega) (by omega) (by omega) (by omega)
    have hc : d = 0 ∨ d = 3 ∨ (¬ d = 0 ∧ ¬ d = 3) := by omega
    rcases hc with hc | hc | ⟨hc, hc'⟩
    · subst hc
      simp [B_law_walked_1, hm, h1, h2, hd, oEq_int, tq]
    · subst hc
      simp [B_law_walked_1, hm, h1, h2, hd, oEq_int, tq]
    · have n0 : ¬ (d : Int) = 0 := by omega
      have n3 : ¬ (d : Int) = 3 := by omega
      simp [B_law_walked_1, hm, h1, h2, h3, hd, oEq_int, tq, hc, hc', n0, n3]
theorem law_walked_ok (n : Nat) (h : n ≤ 40) (p : Pose) (k : Nat) : G_law_walked [.int n, p.d, .int k] = some (ptD (lay p (2 ^ n - 1) (wk n k))) := by
  obtain ⟨a, b, e⟩ := walk_loop k (some (.d (.int n))) (some (.d p.d)) n 0 none none (by omega)
  have hr := iRng1_of (a := eVar 0) (r := [some (.d (.int n)), some (.d p.d), some (.d (.int k)), some (.d (.int 0)), some (.d (.int 0)), some (.d (.int 1)), none, none]) rfl (by omega)
  have hs : sizeOk 3 = true := by decide
  rw [Nat.zero_add] at e
  have e' : forGo (gNm 6) B_law_walked_1 (rngD 0 n) [some (.d (.int n)), some (.d p.d), some (.d (.int k)), some (.d (.int 0)), some (.d (.int 0)), some (.d (.int 1)), none, none] = _ := e
  rw [G_law_walked_ap]
  simp [F_law_walked, hr, e', hs, law_laid_ok]

/-! ### both goings tell the same cells -/
theorem lay_step (p : Pose) (n : Nat) (s c : Int × Int) : lay p (2 ^ (n + 1) - 1) (s.1 * 2 ^ n + c.1, s.2 * 2 ^ n + c.2) = ((lay p 1 s).1 * 2 ^ n + (lay p (2 ^ n - 1) c).1, (lay p 1 s).2 * 2 ^ n + (lay p (2 ^ n - 1) c).2) := by
  obtain ⟨a, b⟩ := s
  obtain ⟨x, y⟩ := c
  have e : (2 : Int) ^ (n + 1) = 2 * 2 ^ n := by rw [Int.pow_succ]; omega
  rw [e]
  generalize (2 : Int) ^ n = S
  cases p <;> simp only [lay, Int.sub_mul, Int.one_mul, Prod.mk.injEq] <;> omega
theorem cell_succ (n : Nat) (p : Pose) (k : Nat) : cell (n + 1) p k = ((spot p (k / 4 ^ n % 4)).1 * 2 ^ n + (cell n (inner p (k / 4 ^ n % 4)) k).1, (spot p (k / 4 ^ n % 4)).2 * 2 ^ n + (cell n (inner p (k / 4 ^ n % 4)) k).2) := by
  unfold cell
  rw [come_succ, Nat.zero_add]
theorem cell_lay : ∀ (n : Nat) (p : Pose) (k : Nat), cell n p k = lay p (2 ^ n - 1) (cell n .plain k)
  | 0, p, k => by
    show ((0 : Int), (0 : Int)) = lay p (2 ^ 0 - 1) (0, 0)
    cases p <;> rfl
  | n + 1, p, k => by
    rw [cell_succ, cell_succ n .plain]
    generalize k / 4 ^ n % 4 = d
    rw [lay_step, cell_lay n (inner p d), cell_lay n (inner .plain d) k]
    have e1 : lay p 1 (spot .plain d) = spot p d := rfl
    have e2 : lay p (2 ^ n - 1) (lay (inner .plain d) (2 ^ n - 1) (cell n .plain k)) = lay (inner p d) (2 ^ n - 1) (cell n .plain k) := by
      rw [lay_lay]
      unfold inner
      rw [pJoin_comm p]
      rfl
    rw [e1, e2]
theorem cell_wk : ∀ (n : Nat) (k : Nat), cell n .plain k = wk n k
  | 0, k => rfl
  | n + 1, k => by
    have ih := cell_wk n k
    have hlt : k / 4 ^ n % 4 < 4 := Nat.mod_lt _ (by decide)
    show _ = tq n (k / 4 ^ n % 4) (wk n k)
    rw [cell_succ]
    generalize k / 4 ^ n % 4 = d at *
    rw [cell_lay, ih]
    generalize wk n k = c
    obtain ⟨x, y⟩ := c
    match d, hlt with
    | 0, _ => simp [spot, qSpot, inner, qPose, pJoin, lay, tq]
    | 1, _ => simp [spot, qSpot, inner, qPose, pJoin, lay, tq]; omega
    | 2, _ => simp [spot, qSpot, inner, qPose, pJoin, lay, tq]; omega
    | 3, _ => simp [spot, qSpot, inner, qPose, pJoin, lay, tq]; omega
theorem walked_ok (n : Nat) (h : n ≤ 40) (p : Pose) (k : Nat) : G_law_walked [.int n, p.d, .int k] = some (ptD (cell n p k)) := by
  rw [law_walked_ok n h p k, cell_lay, cell_wk]
theorem cell_in_sq : ∀ (n : Nat) (p : Pose) (k : Nat), InSq n (cell n p k)
  | 0, p, k => by
    show InSq 0 (0, 0)
    unfold InSq
    decide
  | n + 1, p, k => by
    rw [cell_succ]
    have ih := cell_in_sq n (inner p (k / 4 ^ n % 4)) k
    have hs := spot_bd p (k / 4 ^ n % 4)
    generalize cell n (inner p (k / 4 ^ n % 4)) k = c at *
    generalize spot p (k / 4 ^ n % 4) = s at *
    obtain ⟨a, b⟩ := s
    obtain ⟨x, y⟩ := c
    unfold InSq at *
    have e : (2 : Int) ^ (n + 1) = 2 * 2 ^ n := by rw [Int.pow_succ]; omega
    rw [e]
    simp only at *
    generalize (2 : Int) ^ n = S at *
    have ha : a = 0 ∨ a = 1 := by omega
    have hb : b = 0 ∨ b = 1 := by omega
    rcases ha with rfl | rfl <;> rcases hb with rfl | rfl <;> omega
/-- a drawn number of a cell -/
theorem among_num (c k : Int) (n : Nat) (h : 0 ≤ k) (h2 : k ≤ 900) : ∃ m : Nat, m < 4 ^ n ∧ G_law_among [.int c, .int k, .int (4 ^ n)] = some (.int m) := by
  obtain ⟨m, h0, h1, e⟩ := among_ok c k (4 ^ n) h h2 (by rw [four_pow]; exact two_pos _)
  refine ⟨m.toNat, ?_, ?_⟩
  · have := cast4 n
    omega
  · rw [e]
    congr 2
    omega
end BL

set_option linter.all false
set_option maxRecDepth 100000
set_option maxHeartbeats 1000000
namespace BL
open PySem
/-! ### numbers of cells -/
def qDig (s : Int × Int) : Nat := if s.2 = 0 then (if s.1 = 0 then 0 else 3) else (if s.1 = 0 then 1 else 2)
def digOf (p : Pose) (s : Int × Int) : Nat := qDig (lay p 1 s)
def bitsAt (i : Nat) (c : Int × Int) : Int × Int := (c.1 / 2 ^ i % 2, c.2 / 2 ^ i % 2)
/-- the index of the net square of level lvl that a cell lies in, m levels down, and the pose within it -/
def fnd (lvl : Nat) : Nat → Pose → Int × Int → Nat × Pose
  | 0, p, _ => (0, p)
  | m + 1, p, c =>
    let d := digOf p (bitsAt (lvl + m) c)
    let r := fnd lvl m (inner p d) c
    (d * 4 ^ m + r.1, r.2)
theorem fnd_succ (lvl m : Nat) (p : Pose) (c : Int × Int) : fnd lvl (m + 1) p c = (digOf p (bitsAt (lvl + m) c) * 4 ^ m + (fnd lvl m (inner p (digOf p (bitsAt (lvl + m) c))) c).1, (fnd lvl m (inner p (digOf p (bitsAt (lvl + m) c))) c).2) := rfl
theorem bits_01 (i : Nat) (c : Int × Int) : ((bitsAt i c).1 = 0 ∨ (bitsAt i c).1 = 1) ∧ ((bitsAt i c).2 = 0 ∨ (bitsAt i c).2 = 1) := by
  unfold bitsAt
  simp only
  omega
theorem qDig_lt (s : Int × Int) : qDig s < 4 := by unfold qDig; split <;> split <;> omega
theorem digOf_lt (p : Pose) (s : Int × Int) : digOf p s < 4 := qDig_lt _
theorem spot_iff (p : Pose) (s : Int × Int) (h : (s.1 = 0 ∨ s.1 = 1) ∧ (s.2 = 0 ∨ s.2 = 1)) (d : Nat) (hd : d < 4) : spot p d = s ↔ d = digOf p s := by
  obtain ⟨a, b⟩ := s
  simp only at h
  obtain ⟨ha, hb⟩ := h
  have hd' : d = 0 ∨ d = 1 ∨ d = 2 ∨ d = 3 := by omega
  rcases ha with rfl | rfl <;> rcases hb with rfl | rfl <;> rcases hd' with rfl | rfl | rfl | rfl <;> cases p <;> decide
theorem spot_dig (p : Pose) (s : Int × Int) (h : (s.1 = 0 ∨ s.1 = 1) ∧ (s.2 = 0 ∨ s.2 = 1)) : spot p (digOf p s) = s := (spot_iff p s h _ (digOf_lt p s)).mpr rfl
theorem dig_spot (p : Pose) (d : Nat) (h : d < 4) : digOf p (spot p d) = d := by
  have hs := spot_bd p d
  exact ((spot_iff p (spot p d) (by omega) d h).mp rfl).symm
theorem bit_eq {x : Int} (h : 0 ≤ x) (i : Nat) : Builtin.bitAnd (x / 2 ^ i) 1 = x / 2 ^ i % 2 := by
  have h1 : 0 ≤ x / 2 ^ i := Int.ediv_nonneg h (Int.le_of_lt (two_pos i))
  generalize x / 2 ^ i = z at *
  rw [PyProof.Rows.bitAnd_pp h1 (by omega)]
  show ((z.toNat &&& 1 : Nat) : Int) = _
  rw [Nat.and_one_is_mod]
  omega
/-- the turn over the four digits -/
theorem found_turn (x0 x1 x2 x3 x6 x9 x10 x11 : Option Sl) (I : Int) (hI : okMul 4 I = true) (p : Pose) (s : Int × Int) (hs : (s.1 = 0 ∨ s.1 = 1) ∧ (s.2 = 0 ∨ s.2 = 1)) (d : Nat) (hd : d < 4) :
    B_found_at_1 [x0, x1, x2, x3, some (.d (.int I)), some (.d p.d), x6, some (.d (ptD s)), some (.d (.int d)), x9, x10, x11] =
    if d = digOf p s then some (.bk [x0, x1, x2, x3, some (.d (.int (4 * I + d))), some (.d (inner p d).d), x6, some (.d (ptD s)), some (.d (.int d)), some (.d (inner p d).d), some (.d (.int (spot p d).1)), some (.d (.int (spot p d).2))])
    else some (.nx [x0, x1, x2, x3, some (.d (.int I)), some (.d p.d), x6, some (.d (ptD s)), some (.d (.int d)), some (.d (inner p d).d), some (.d (.int (spot p d).1)), some (.d (.int (spot p d).2))]) := by
  have hq := quarter_ok p d hd
  have hz : sizeOk 2 = true := by decide
  have e : PyData.tuple [.int (spot p d).1, .int (spot p d).2] = ptD (spot p d) := rfl
  have hi := spot_iff p s hs d hd
  by_cases h : d = digOf p s
  · rw [if_pos h]
    have h' := hi.mpr h
    have es : PyData.tuple [.int s.1, .int s.2] = ptD s := rfl
    simp [B_found_at_1, hq, hz, e, es, h', hI]
  · rw [if_neg h]
    have h' : ¬ spot p d = s := fun z => h (hi.mp z)
    simp [B_found_at_1, hq, hz, e, h']
theorem turns4 : rngD 0 4 = [.int ((0 : Nat) : Int), .int ((1 : Nat) : Int), .int ((2 : Nat) : Int), .int ((3 : Nat) : Int)] := rfl
theorem found_in (x0 x1 x2 x3 x6 x8 x9 x10 x11 : Option Sl) (I : Int) (hI : okMul 4 I = true) (p : Pose) (s : Int × Int) (hs : (s.1 = 0 ∨ s.1 = 1) ∧ (s.2 = 0 ∨ s.2 = 1)) :
    ∃ a8 a9 a10 a11, forGo (gNm 8) B_found_at_1 (rngD 0 4) [x0, x1, x2, x3, some (.d (.int I)), some (.d p.d), x6, some (.d (ptD s)), x8, x9, x10, x11] =
      some (.nx [x0, x1, x2, x3, some (.d (.int (4 * I + digOf p s))), some (.d (inner p (digOf p s)).d), x6, some (.d (ptD s)), a8, a9, a10, a11]) := by
  have ft := fun d hd y9 y10 y11 => found_turn x0 x1 x2 x3 x6 y9 y10 y11 I hI p s hs d hd
  have hl := digOf_lt p s
  generalize digOf p s = e at *
  rw [turns4]
  have he : e = 0 ∨ e = 1 ∨ e = 2 ∨ e = 3 := by omega
  rcases he with rfl | rfl | rfl | rfl
  · rw [forGo_bk rfl ((ft 0 (by omega) _ _ _).trans (if_pos rfl))]
    exact ⟨_, _, _, _, rfl⟩
  · rw [forGo_nx rfl ((ft 0 (by omega) _ _ _).trans (if_neg (by omega))), forGo_bk rfl ((ft 1 (by omega) _ _ _).trans (if_pos rfl))]
    exact ⟨_, _, _, _, rfl⟩
  · rw [forGo_nx rfl ((ft 0 (by omega) _ _ _).trans (if_neg (by omega))), forGo_nx rfl ((ft 1 (by omega) _ _ _).trans (if_neg (by omega))), forGo_bk rfl ((ft 2 (by omega) _ _ _).trans (if_pos rfl))]
    exact ⟨_, _, _, _, rfl⟩
  · rw [forGo_nx rfl ((ft 0 (by omega) _ _ _).trans (if_neg (by omega))), forGo_nx rfl ((ft 1 (by omega) _ _ _).trans (if_neg (by omega))), forGo_nx rfl ((ft 2 (by omega) _ _ _).trans (if_neg (by omega))), forGo_bk rfl ((ft 3 (by omega) _ _ _).trans (if_pos rfl))]
    exact ⟨_, _, _, _, rfl⟩
theorem pow4_le {j : Nat} (h : j ≤ 100) : 4 ^ j ≤ 2 ^ 200 := by
  rw [show 4 ^ j = 2 ^ (2 * j) by rw [Nat.pow_mul]]
  exact Nat.pow_le_pow_right (by decide) (by omega)
theorem found_loop (lvl : Nat) (c : Int × Int) (hc : 0 ≤ c.1 ∧ 0 ≤ c.2) (x0 x1 x3 : Option Sl) : ∀ (m : Nat) (p : Pose) (I j : Nat) (x6 x7 x8 x9 x10 x11 : Option Sl), lvl + m ≤ 400 → j + m ≤ 100 → I < 4 ^ j →
    ∃ a6 a7 a8 a9 a10 a11, forGo (gNm 6) B_found_at_2 (rngU ((lvl : Int) + m - 1) m) [x0, x1, some (.d (ptD c)), x3, some (.d (.int I)), some (.d p.d), x6, x7, x8, x9, x10, x11] =
      some (.nx [x0, x1, some (.d (ptD c)), x3, some (.d (.int ((I * 4 ^ m + (fnd lvl m p c).1 : Nat) : Int))), some (.d (fnd lvl m p c).2.d), a6, a7, a8, a9, a10, a11])
  | 0, p, I, j, x6, x7, x8, x9, x10, x11, _, _, _ => ⟨x6, x7, x8, x9, x10, x11, by simp [rngU, fnd]⟩
  | m + 1, p, I, j, x6, x7, x8, x9, x10, x11, h, hj, hI => by
    have e0 : (lvl : Int) + ((m + 1 : Nat) : Int) - 1 = ((lvl + m : Nat) : Int) := by omega
    have e1 : ((lvl + m : Nat) : Int) - 1 = (lvl : Int) + m - 1 := by omega
    have hp4 := pow4_le (j := j) (by omega)
    have hI4 : okMul 4 (I : Int) = true := okMul_of (by omega) (by omega) (by omega) (by omega)
    have b1 := bit_eq hc.1 (lvl + m)
    have b2 := bit_eq hc.2 (lvl + m)
    have hs := bits_01 (lvl + m) c
    obtain ⟨a8, a9, a10, a11, ein⟩ := found_in x0 x1 (some (.d (ptD c))) x3 (some (.d (.int ((lvl + m : Nat) : Int)))) x8 x9 x10 x11 (I : Int) hI4 p (bitsAt (lvl + m) c) hs
    have hdl := digOf_lt p (bitsAt (lvl + m) c)
    rw [fnd_succ]
    have e2 : (4 * (I : Int) + (digOf p (bitsAt (lvl + m) c) : Int)) = ((4 * I + digOf p (bitsAt (lvl + m) c) : Nat) : Int) := by omega
    rw [e2] at ein
    obtain ⟨b6, b7, b8, b9, b10, b11, ih⟩ := found_loop lvl c hc x0 x1 x3 m (inner p (digOf p (bitsAt (lvl + m) c))) (4 * I + digOf p (bitsAt (lvl + m) c)) (j + 1) (some (.d (.int ((lvl + m : Nat) : Int)))) (some (.d (ptD (bitsAt (lvl + m) c)))) a8 a9 a10 a11 (by omega) (by omega) (by rw [Nat.pow_succ]; omega)
    refine ⟨b6, b7, b8, b9, b10, b11, ?_⟩
    have hr := fun r => iRng1_of (a := eC (.int 4)) (r := r) (n := 4) rfl (by omega)
    have hz : sizeOk 2 = true := by decide
    have ept : PyData.tuple [.int (c.1 / 2 ^ (lvl + m) % 2), .int (c.2 / 2 ^ (lvl + m) % 2)] = ptD (bitsAt (lvl + m) c) := rfl
    have h0 : (0 : Int) ≤ ((lvl + m : Nat) : Int) := by omega
    have et : (((lvl + m : Nat) : Int)).toNat = lvl + m := by omega
    rw [e0, rngU_succ, e1]
    generalize hd : digOf p (bitsAt (lvl + m) c) = d at *
    generalize hbb : bitsAt (lvl + m) c = s at *
    generalize ((lvl + m : Nat) : Int) = i at *
    rw [forGo_nx (r1 := [x0, x1, some (.d (ptD c)), x3, some (.d (.int I)), some (.d p.d), some (.d (.int i)), x7, x8, x9, x10, x11]) rfl
      (r2 := [x0, x1, some (.d (ptD c)), x3, some (.d (.int ((4 * I + d : Nat) : Int))), some (.d (inner p d).d), some (.d (.int i)), some (.d (ptD s)), a8, a9, a10, a11])
      (by simp [B_found_at_2, h0, et, b1, b2, hz, ept, hr, ein]), ih]
    have ef : (4 * I + d) * 4 ^ m + (fnd lvl m (inner p d) c).1 = I * 4 ^ (m + 1) + (d * 4 ^ m + (fnd lvl m (inner p d) c).1) := by
      rw [Nat.pow_succ, Nat.add_mul, Nat.mul_comm (4 ^ m) 4, ← Nat.mul_assoc, Nat.mul_comm I 4, Nat.add_assoc]
    rw [ef]
end BL

set_option linter.all false
set_option maxRecDepth 100000
set_option maxHeartbeats 1000000
namespace BL
open PySem
theorem found_at_ok (lvl m : Nat) (p : Pose) (c : Int × Int) (hc : 0 ≤ c.1 ∧ 0 ≤ c.2) (h : lvl + m ≤ 100) : G_found_at [.int ((lvl + m : Nat) : Int), p.d, ptD c, .int lvl] =
    some (.tuple [.int (fnd lvl m p c).1, (fnd lvl m p c).2.d]) := by
  obtain ⟨a6, a7, a8, a9, a10, a11, e⟩ := found_loop lvl c hc (some (.d (.int ((lvl + m : Nat) : Int)))) (some (.d p.d)) (some (.d (.int lvl))) m p 0 0 none none none none none none (by omega) (by omega) (by decide)
  have hr := iRev2_of (a := eVar 3) (b := eVar 0) (r := [some (.d (.int ((lvl + m : Nat) : Int))), some (.d p.d), some (.d (ptD c)), some (.d (.int lvl)), some (.d (.int 0)), some (.d p.d), none, none, none, none, none, none]) rfl rfl (by omega)
  have hs : sizeOk 2 = true := by decide
  rw [G_found_at_ap]
  generalize ((lvl + m : Nat) : Int) = n at *
  simp only [Int.natCast_zero, Nat.zero_mul, Nat.zero_add] at e
  simp [F_found_at, hr, e, hs]
def num (n : Nat) (p : Pose) (c : Int × Int) : Nat := (fnd 0 n p c).1
theorem number_of_ok (n : Nat) (h : n ≤ 40) (p : Pose) (c : Int × Int) (hc : InSq n c) : G_number_of [.int n, p.d, ptD c] = some (.int (num n p c)) := by
  have e := found_at_ok 0 n p c ⟨hc.1, hc.2.2.1⟩ (by omega)
  rw [Nat.zero_add] at e
  simp only [Int.natCast_zero] at e
  rw [G_number_of_ap]
  simp [F_number_of, need_size_ok n h, need_pose_ok, need_cell_ok n h c hc, e, atD, num]
/-! ### the way there and back -/
theorem bit_low (s x : Int) {i j : Nat} (h : i < j) : (s * 2 ^ j + x) / 2 ^ i % 2 = x / 2 ^ i % 2 := by
  obtain ⟨d, rfl⟩ : ∃ d, j = d + 1 + i := ⟨j - i - 1, by omega⟩
  have hp := two_pos i
  have e : s * 2 ^ (d + 1 + i) + x = x + (s * 2 ^ d * 2) * 2 ^ i := by
    rw [Int.pow_add, Int.pow_add, Int.add_comm, ← Int.mul_assoc, ← Int.mul_assoc]; rfl
  rw [e, Int.add_mul_ediv_right _ _ (by omega)]
  generalize x / 2 ^ i = z
  generalize s * 2 ^ d = w
  omega
theorem div_top (s x S : Int) (h : 0 ≤ x) (hx : x < S) : (s * S + x) / S = s := by
  rw [Int.add_comm, Int.add_mul_ediv_right _ _ (by omega), Int.ediv_eq_zero_of_lt h hx, Int.zero_add]
theorem mod_top (s x S : Int) (h : 0 ≤ x) (hx : x < S) : (s * S + x) % S = x := by
  rw [Int.add_comm, Int.add_mul_emod_self_right, Int.emod_eq_of_lt h hx]
theorem fnd_congr (lvl : Nat) : ∀ (m : Nat) (p : Pose) (c c' : Int × Int), (∀ i, lvl ≤ i → i < lvl + m → bitsAt i c = bitsAt i c') → fnd lvl m p c = fnd lvl m p c'
  | 0, p, c, c', _ => rfl
  | m + 1, p, c, c', h => by
    have h1 := h (lvl + m) (by omega) (by omega)
    have ih := fun q => fnd_congr lvl m q c c' (fun i a b => h i a (by omega))
    rw [fnd_succ, fnd_succ, h1, ih]
theorem fnd_lt (lvl : Nat) : ∀ (m : Nat) (p : Pose) (c : Int × Int), (fnd lvl m p c).1 < 4 ^ m
  | 0, p, c => by show 0 < 4 ^ 0; decide
  | m + 1, p, c => by
    have ih := fnd_lt lvl m (inner p (digOf p (bitsAt (lvl + m) c))) c
    have hd := digOf_lt p (bitsAt (lvl + m) c)
    rw [fnd_succ, Nat.pow_succ]
    simp only
    generalize digOf p (bitsAt (lvl + m) c) = d at *
    have : d * 4 ^ m ≤ 3 * 4 ^ m := Nat.mul_le_mul_right _ (by omega)
    omega
/-- bounds of a corner -/
theorem come_bd (lvl : Nat) : ∀ (m : Nat) (p : Pose) (k : Nat), (0 ≤ (come lvl m p k).1.1 ∧ (come lvl m p k).1.1 + 2 ^ lvl ≤ 2 ^ (lvl + m)) ∧ (0 ≤ (come lvl m p k).1.2 ∧ (come lvl m p k).1.2 + 2 ^ lvl ≤ 2 ^ (lvl + m))
  | 0, p, k => by
    have := two_pos lvl
    simp only [come, Nat.add_zero]
    omega
  | m + 1, p, k => by
    have ih := come_bd lvl m (inner p (k / 4 ^ (lvl + m) % 4)) k
    have hs := spot_bd p (k / 4 ^ (lvl + m) % 4)
    have tp := two_pos lvl
    rw [come_succ, ← Nat.add_assoc, Int.pow_succ]
    simp only
    generalize (come lvl m (inner p (k / 4 ^ (lvl + m) % 4)) k).1 = q at *
    generalize spot p (k / 4 ^ (lvl + m) % 4) = s at *
    generalize (2 : Int) ^ (lvl + m) = S at *
    generalize (2 : Int) ^ lvl = T at *
    obtain ⟨a, b⟩ := s
    simp only at hs ⊢
    have ha : a = 0 ∨ a = 1 := by omega
    have hb : b = 0 ∨ b = 1 := by omega
    rcases ha with rfl | rfl <;> rcases hb with rfl | rfl <;> omega
theorem fnd_come (lvl : Nat) : ∀ (m : Nat) (p : Pose) (k : Nat) (u v : Int), 0 ≤ u → u < 2 ^ lvl → 0 ≤ v → v < 2 ^ lvl →
    fnd lvl m p ((come lvl m p k).1.1 + u, (come lvl m p k).1.2 + v) = (k / 4 ^ lvl % 4 ^ m, (come lvl m p k).2)
  | 0, p, k, u, v, _, _, _, _ => by
    show (0, p) = (k / 4 ^ lvl % 1, p)
    rw [Nat.mod_one]
  | m + 1, p, k, u, v, u1, u2, v1, v2 => by
    have ih := fnd_come lvl m (inner p (k / 4 ^ (lvl + m) % 4)) k u v u1 u2 v1 v2
    have bd := come_bd lvl m (inner p (k / 4 ^ (lvl + m) % 4)) k
    have hs := spot_bd p (k / 4 ^ (lvl + m) % 4)
    have hlt : k / 4 ^ (lvl + m) % 4 < 4 := Nat.mod_lt _ (by decide)
    have ds := dig_spot p _ hlt
    have ek : k / 4 ^ lvl % 4 ^ (m + 1) = k / 4 ^ (lvl + m) % 4 * 4 ^ m + k / 4 ^ lvl % 4 ^ m := by
      rw [Nat.pow_succ, Nat.mod_mul, Nat.div_div_eq_div_mul, ← Nat.pow_add, Nat.add_comm, Nat.mul_comm (4 ^ m)]
    rw [ek, fnd_succ, come_succ]
    simp only
    generalize k / 4 ^ (lvl + m) % 4 = d at *
    generalize (come lvl m (inner p d) k) = q at *
    generalize hsd : spot p d = s at *
    obtain ⟨a, b⟩ := s
    simp only at hs ⊢
    have eb : bitsAt (lvl + m) (a * 2 ^ (lvl + m) + q.1.1 + u, b * 2 ^ (lvl + m) + q.1.2 + v) = (a, b) := by
      unfold bitsAt
      simp only
      rw [Int.add_assoc, Int.add_assoc, div_top a _ _ (by omega) (by omega), div_top b _ _ (by omega) (by omega)]
      have ha : a % 2 = a := by omega
      have hb : b % 2 = b := by omega
      rw [ha, hb]
    have ec := fnd_congr lvl m (inner p d) (a * 2 ^ (lvl + m) + q.1.1 + u, b * 2 ^ (lvl + m) + q.1.2 + v) (q.1.1 + u, q.1.2 + v) (fun i h1 h2 => by
      unfold bitsAt
      simp only
      rw [Int.add_assoc, Int.add_assoc, bit_low a _ h2, bit_low b _ h2])
    rw [eb, ds, ec, ih]
theorem emod_mul {z : Int} (h : 0 ≤ z) (a b : Nat) : z % ((a * b : Nat) : Int) = z % a + a * (z / a % b) := by
  obtain ⟨n, rfl⟩ := Int.eq_ofNat_of_zero_le h
  rw [← Int.natCast_emod, Nat.mod_mul]
  rw [Int.natCast_add, Int.natCast_emod, Int.natCast_mul, Int.natCast_emod, Int.natCast_ediv]
theorem cast2 (n : Nat) : ((2 ^ n : Nat) : Int) = 2 ^ n := by rw [Int.natCast_pow]; rfl
theorem bits_sum {z : Int} (h : 0 ≤ z) (lvl m : Nat) : z / 2 ^ (lvl + m) % 2 * 2 ^ (lvl + m) + z / 2 ^ lvl % 2 ^ m * 2 ^ lvl = z / 2 ^ lvl % 2 ^ (m + 1) * 2 ^ lvl := by
  have h1 : 0 ≤ z / 2 ^ lvl := Int.ediv_nonneg h (Int.le_of_lt (two_pos lvl))
  have e := emod_mul h1 (2 ^ m) 2
  rw [← Nat.pow_succ, cast2, cast2] at e
  have e2 : z / 2 ^ lvl / 2 ^ m = z / 2 ^ (lvl + m) := by rw [Int.ediv_ediv_of_nonneg (Int.le_of_lt (two_pos lvl)), Int.pow_add]
  rw [show ((2 : Nat) : Int) = 2 from rfl, e2] at e
  rw [e, Int.pow_add, Int.add_mul, Int.add_comm]
  congr 1
  rw [Int.mul_comm (2 ^ m), Int.mul_assoc, Int.mul_comm (2 ^ lvl)]
theorem come_fnd (lvl : Nat) : ∀ (m : Nat) (p : Pose) (c : Int × Int) (k : Nat), 0 ≤ c.1 → 0 ≤ c.2 → k / 4 ^ lvl % 4 ^ m = (fnd lvl m p c).1 →
    come lvl m p k = ((c.1 / 2 ^ lvl % 2 ^ m * 2 ^ lvl, c.2 / 2 ^ lvl % 2 ^ m * 2 ^ lvl), (fnd lvl m p c).2)
  | 0, p, c, k, h1, h2, h => by
    show ((0, 0), p) = ((c.1 / 2 ^ lvl % 1 * 2 ^ lvl, c.2 / 2 ^ lvl % 1 * 2 ^ lvl), p)
    rw [Int.emod_one, Int.emod_one, Int.zero_mul]
  | m + 1, p, c, k, h1, h2, h => by
    have ek : k / 4 ^ lvl % 4 ^ (m + 1) = k / 4 ^ (lvl + m) % 4 * 4 ^ m + k / 4 ^ lvl % 4 ^ m := by
      rw [Nat.pow_succ, Nat.mod_mul, Nat.div_div_eq_div_mul, ← Nat.pow_add, Nat.add_comm, Nat.mul_comm (4 ^ m)]
    rw [ek, fnd_succ] at h
    simp only at h
    have hb := bits_01 (lvl + m) c
    have hsd := spot_dig p (bitsAt (lvl + m) c) hb
    have hf := fnd_lt lvl m (inner p (digOf p (bitsAt (lvl + m) c))) c
    have hm : k / 4 ^ lvl % 4 ^ m < 4 ^ m := Nat.mod_lt _ (Nat.pow_pos (by decide))
    have key : ∀ a b x y S : Nat, x < S → y < S → a * S + x = b * S + y → a = b ∧ x = y := fun a b x y S hx hy e => by
      have e1 : (a * S + x) / S = (b * S + y) / S := by rw [e]
      rw [Nat.add_comm, Nat.add_mul_div_right _ _ (by omega), Nat.div_eq_of_lt hx, Nat.add_comm (b * S), Nat.add_mul_div_right _ _ (by omega), Nat.div_eq_of_lt hy] at e1
      have e2 : a = b := by omega
      subst e2
      exact ⟨rfl, by omega⟩
    obtain ⟨e1, e2⟩ := key _ _ _ _ _ hm hf h
    have ih := come_fnd lvl m _ c k h1 h2 e2
    rw [come_succ, fnd_succ, e1, hsd, ih]
    simp only
    unfold bitsAt
    simp only
    rw [bits_sum h1, bits_sum h2]
/-! cells and numbers -/
theorem num_lt (n : Nat) (p : Pose) (c : Int × Int) : num n p c < 4 ^ n := fnd_lt 0 n p c
theorem num_cell (n : Nat) (p : Pose) (k : Nat) (h : k < 4 ^ n) : num n p (cell n p k) = k := by
  have e := fnd_come 0 n p k 0 0 (by decide) (by decide) (by decide) (by decide)
  unfold num cell
  simp only [Int.add_zero, Nat.pow_zero, Nat.div_one] at e
  rw [show ((come 0 n p k).1.1, (come 0 n p k).1.2) = (come 0 n p k).1 from rfl] at e
  rw [e, Nat.mod_eq_of_lt h]
theorem cell_num (n : Nat) (p : Pose) (c : Int × Int) (h : InSq n c) : cell n p (num n p c) = c := by
  obtain ⟨a, b, x, y⟩ := h
  have e := come_fnd 0 n p c (num n p c) a x (by rw [Nat.pow_zero, Nat.div_one]; exact Nat.mod_eq_of_lt (num_lt n p c))
  unfold cell
  rw [e]
  simp only [Int.pow_zero, Int.ediv_one, Int.mul_one]
  rw [Int.emod_eq_of_lt a b, Int.emod_eq_of_lt x y]
theorem cell_inj (n : Nat) (p : Pose) (j k : Nat) (hj : j < 4 ^ n) (hk : k < 4 ^ n) (h : cell n p j = cell n p k) : j = k := by
  rw [← num_cell n p j hj, h, num_cell n p k hk]
theorem num_inj (n : Nat) (p : Pose) (c d : Int × Int) (hc : InSq n c) (hd : InSq n d) (h : num n p c = num n p d) : c = d := by
  rw [← cell_num n p c hc, h, cell_num n p d hd]
/-! the laws' own numbers -/
def nmq (i : Nat) (c : Int × Int) : Nat × (Int × Int) :=
  if c.2 ≥ 2 ^ i then (1 + (if c.1 ≥ 2 ^ i then 1 else 0), (c.1 % 2 ^ i, c.2 - 2 ^ i))
  else if c.1 < 2 ^ i then (0, (c.2, c.1)) else (3, (2 ^ i - 1 - c.2, 2 * 2 ^ i - 1 - c.1))
def nm : Nat → Int × Int → Nat
  | 0, _ => 0
  | i + 1, c => (nmq i c).1 * 4 ^ i + nm i (nmq i c).2
theorem nmq_lt (i : Nat) (c : Int × Int) : (nmq i c).1 < 4 := by
  unfold nmq
  split
  · split <;> simp
  · split <;> simp
theorem nm_lt : ∀ (i : Nat) (c : Int × Int), nm i c < 4 ^ i
  | 0, c => by show 0 < 4 ^ 0; decide
  | i + 1, c => by
    have ih := nm_lt i (nmq i c).2
    have hd := nmq_lt i c
    show (nmq i c).1 * 4 ^ i + nm i (nmq i c).2 < 4 ^ (i + 1)
    rw [Nat.pow_succ]
    generalize (nmq i c).1 = d at *
    have : d * 4 ^ i ≤ 3 * 4 ^ i := Nat.mul_le_mul_right _ (by omega)
    omega
theorem wk_mod : ∀ (i k : Nat), wk i (k % 4 ^ i) = wk i k
  | 0, k => rfl
  | i + 1, k => by
    show tq i (k % 4 ^ (i + 1) / 4 ^ i % 4) (wk i (k % 4 ^ (i + 1))) = tq i (k / 4 ^ i % 4) (wk i k)
    have e1 : k % 4 ^ (i + 1) / 4 ^ i % 4 = k / 4 ^ i % 4 := by
      rw [Nat.pow_succ, Nat.mod_mul_right_div_self, Nat.mod_mod]
    have e2 : wk i (k % 4 ^ (i + 1)) = wk i k := by
      rw [← wk_mod i (k % 4 ^ (i + 1)), Nat.pow_succ, Nat.mod_mul_right_mod, wk_mod i k]
    rw [e1, e2]
theorem wk_nm : ∀ (i : Nat) (c : Int × Int), InSq i c → wk i (nm i c) = c
  | 0, c, h => by
    obtain ⟨x, y⟩ := c
    obtain ⟨h1, h2, h3, h4⟩ := h
    simp only [Int.pow_zero] at h1 h2 h3 h4
    show ((0 : Int), (0 : Int)) = (x, y)
    have : x = 0 := by omega
    have : y = 0 := by omega
    subst_vars
    rfl
  | i + 1, c, h => by
    have hl := nm_lt i (nmq i c).2
    have hd := nmq_lt i c
    show tq i ((((nmq i c).1 * 4 ^ i + nm i (nmq i c).2)) / 4 ^ i % 4) (wk i ((nmq i c).1 * 4 ^ i + nm i (nmq i c).2)) = c
    have e1 : ((nmq i c).1 * 4 ^ i + nm i (nmq i c).2) / 4 ^ i % 4 = (nmq i c).1 := by
      rw [Nat.add_comm, Nat.add_mul_div_right _ _ (Nat.pow_pos (by decide)), Nat.div_eq_of_lt hl, Nat.zero_add, Nat.mod_eq_of_lt hd]
    have e2 : wk i ((nmq i c).1 * 4 ^ i + nm i (nmq i c).2) = wk i (nm i (nmq i c).2) := by
      rw [← wk_mod, Nat.add_comm, Nat.add_mul_mod_self_right, Nat.mod_eq_of_lt hl]
    obtain ⟨x, y⟩ := c
    obtain ⟨h1, h2, h3, h4⟩ := h
    simp only at h1 h2 h3 h4
    have e3 : (2 : Int) ^ (i + 1) = 2 * 2 ^ i := by rw [Int.pow_succ]; omega
    rw [e3] at h2 h4
    have hp := two_pos i
    have hin : InSq i (nmq i (x, y)).2 := by
      unfold nmq InSq
      have m0 := Int.emod_nonneg x (b := 2 ^ i) (by omega)
      have m1 := Int.emod_lt_of_pos x hp
      simp only
      split
      · simp only; omega
      · split
        · simp only; omega
        · simp only; omega
    rw [e1, e2, wk_nm i _ hin]
    unfold nmq tq
    simp only
    split
    · by_cases hx : x ≥ 2 ^ i
      · have em : x % 2 ^ i = x - 2 ^ i := by
          rw [show x = 1 * 2 ^ i + (x - 2 ^ i) by omega, mod_top 1 _ _ (by omega) (by omega)]; omega
        simp [hx, em]
      · have em : x % 2 ^ i = x := Int.emod_eq_of_lt h1 (by omega)
        simp [hx, em]
    · split
      · simp
      · simp; omega
theorem nm_num (n : Nat) (p : Pose) (c : Int × Int) (h : InSq n c) : nm n (lay p (2 ^ n - 1) c) = num n p c := by
  have h1 := lay_in p n c h
  have e : cell n p (nm n (lay p (2 ^ n - 1) c)) = c := by
    rw [cell_lay, cell_wk, wk_nm n _ h1, lay_two]
  rw [← num_cell n p _ (nm_lt n (lay p (2 ^ n - 1) c)), e]
end BL

set_option linter.all false
set_option maxRecDepth 100000
set_option maxHeartbeats 1000000
namespace BL
open PySem
theorem okRng_of {i : Int} (h1 : -1000000 ≤ i) (h2 : i ≤ 1000000) : okRng i = true := Nat.ble_eq_true_of_le (by omega)
theorem iRngDn_of {a b : FE} {r : Env} {n : Nat} {x y : Int} (ha : a r = some (.int x)) (hb : b r = some (.int y)) (h : (n : Int) = x - y) (h1 : -1000 ≤ y) (h2 : x ≤ 1000000) (h3 : n ≤ 1000) : iRngDn a b r = some (rngU x n) := by
  have k1 : okRng x = true := okRng_of (by omega) (by omega)
  have k2 : okRng y = true := okRng_of (by omega) (by omega)
  have e : (x - y).toNat = n := by omega
  unfold iRngDn
  rw [ha, Option.bind_some, hb, Option.bind_some]
  show (if okRng3 x y = true then some (rngU x (x - y).toNat) else none) = _
  unfold okRng3
  rw [k1, k2, e]
  rfl
theorem nm_bd (i : Nat) (c : Int × Int) (B : Int) (hB : 2 ^ i ≤ B) (h : -B ≤ c.1 ∧ c.1 ≤ B ∧ -B ≤ c.2 ∧ c.2 ≤ B) : -(3 * B) ≤ (nmq i c).2.1 ∧ (nmq i c).2.1 ≤ 3 * B ∧ -(3 * B) ≤ (nmq i c).2.2 ∧ (nmq i c).2.2 ≤ 3 * B := by
  have hp := two_pos i
  have m0 := Int.emod_nonneg c.1 (b := 2 ^ i) (by omega)
  have m1 := Int.emod_lt_of_pos c.1 hp
  unfold nmq
  split
  · simp only; omega
  · split
    · simp only; omega
    · simp only; omega
theorem numbered_turn (x0 x1 x2 x7 x8 : Option Sl) (i : Nat) (hi : i ≤ 100) (c : Int × Int) (I : Nat) (hI : okMul 4 (I : Int) = true) :
    ∃ a7 a8, B_law_numbered_1 [x0, x1, x2, some (.d (.int c.1)), some (.d (.int c.2)), some (.d (.int I)), some (.d (.int i)), x7, x8] =
     some (.nx [x0, x1, x2, some (.d (.int (nmq i c).2.1)), some (.d (.int (nmq i c).2.2)), some (.d (.int ((4 * I + (nmq i c).1 : Nat) : Int))), some (.d (.int i)), a7, a8]) := by
  have hs := side_ok i (by omega)
  have hp := two_pos i
  have hl := two_le i (by omega)
  have hm : okMul 2 (2 ^ i) = true := okMul_of (by omega) (by omega) (by omega) (by omega)
  refine ⟨some (.d (.int (2 ^ i))), some (.d (.int (nmq i c).1)), ?_⟩
  obtain ⟨x, y⟩ := c
  by_cases hy : (2 : Int) ^ i ≤ y
  · by_cases hx : (2 : Int) ^ i ≤ x <;> simp [B_law_numbered_1, hs, hp, hy, hx, nmq, hI]
  · by_cases hx : x < 2 ^ i <;> simp [B_law_numbered_1, hs, hp, hy, hx, nmq, hI, hm]
theorem numbered_loop (x0 x1 x2 : Option Sl) : ∀ (m : Nat) (c : Int × Int) (I j : Nat) (x6 x7 x8 : Option Sl), j + m ≤ 100 → I < 4 ^ j →
    ∃ a3 a4 a6 a7 a8, forGo (gNm 6) B_law_numbered_1 (rngU ((m : Int) - 1) m) [x0, x1, x2, some (.d (.int c.1)), some (.d (.int c.2)), some (.d (.int I)), x6, x7, x8] =
      some (.nx [x0, x1, x2, a3, a4, some (.d (.int ((I * 4 ^ m + nm m c : Nat) : Int))), a6, a7, a8])
  | 0, c, I, j, x6, x7, x8, _, _ => ⟨some (.d (.int c.1)), some (.d (.int c.2)), x6, x7, x8, by simp [rngU, nm]⟩
  | m + 1, c, I, j, x6, x7, x8, hj, hI => by
    have hp4 := pow4_le (j := j) (by omega)
    have hI4 : okMul 4 (I : Int) = true := okMul_of (by omega) (by omega) (by omega) (by omega)
    have hd := nmq_lt m c
    obtain ⟨b7, b8, e1⟩ := numbered_turn x0 x1 x2 x7 x8 m (by omega) c I hI4
    obtain ⟨a3, a4, a6, a7, a8, ih⟩ := numbered_loop x0 x1 x2 m (nmq m c).2 (4 * I + (nmq m c).1) (j + 1) (some (.d (.int m))) b7 b8 (by omega) (by rw [Nat.pow_succ]; omega)
    refine ⟨a3, a4, a6, a7, a8, ?_⟩
    rw [show ((m + 1 : Nat) : Int) - 1 = m by omega, rngU_succ, forGo_nx rfl e1, ih]
    have ef : (4 * I + (nmq m c).1) * 4 ^ m + nm m (nmq m c).2 = I * 4 ^ (m + 1) + nm (m + 1) c := by
      show _ = I * 4 ^ (m + 1) + ((nmq m c).1 * 4 ^ m + nm m (nmq m c).2)
      rw [Nat.pow_succ, Nat.add_mul, Nat.mul_comm (4 ^ m) 4, ← Nat.mul_assoc, Nat.mul_comm I 4, Nat.add_assoc]
    rw [ef]
theorem numbered_ok (n : Nat) (h : n ≤ 40) (p : Pose) (c : Int × Int) (hc : InSq n c) : G_law_numbered [.int n, p.d, ptD c] = some (.int (num n p c)) := by
  rw [← nm_num n p c hc]
  obtain ⟨a3, a4, a6, a7, a8, e⟩ := numbered_loop (some (.d (.int n))) (some (.d p.d)) (some (.d (ptD c))) n (lay p (2 ^ n - 1) c) 0 0 none none none (by omega) (by decide)
  have hr := iRngDn_of (n := n) (a := eOp oSub (eVar 0) (eC (.int 1))) (b := eUn oNeg (eC (.int 1))) (x := (n : Int) - 1) (y := -1) (r := [some (.d (.int n)), some (.d p.d), some (.d (ptD c)), some (.d (.int (lay p (2 ^ n - 1) c).1)), some (.d (.int (lay p (2 ^ n - 1) c).2)), some (.d (.int 0)), none, none, none]) rfl rfl (by omega) (by omega) (by omega) (by omega)
  have hs := side_ok n (by omega)
  have hl := law_laid_ok p (2 ^ n) c.1 c.2
  rw [show (c.1, c.2) = c from rfl] at hl
  simp only [Int.natCast_zero, Nat.zero_mul, Nat.zero_add] at e
  rw [G_law_numbered_ap]
  generalize hq : lay p (2 ^ n - 1) c = q at *
  have eq : ptD q = .tuple [.int q.1, .int q.2] := rfl
  rw [eq] at hl
  simp [F_law_numbered, hs, hl, hr, e]
/-- a drawn place on a side -/
theorem among_side (c k : Int) (n : Nat) (h : 0 ≤ k) (h2 : k ≤ 900) : ∃ m : Int, 0 ≤ m ∧ m < 2 ^ n ∧ G_law_among [.int c, .int k, .int (2 ^ n)] = some (.int m) := by
  exact among_ok c k (2 ^ n) h h2 (two_pos n)
end BL

set_option linter.all false
set_option maxRecDepth 100000
set_option maxHeartbeats 1000000
namespace BL
open PySem
/-! ### net squares -/
theorem four_pos (n : Nat) : (0 : Int) < 4 ^ n := Int.pow_pos (by decide)
def padd (c d : Int × Int) : Int × Int := (c.1 + d.1, c.2 + d.2)
theorem cell_mod (n : Nat) (p : Pose) (k : Nat) : cell n p (k % 4 ^ n) = cell n p k := by
  rw [cell_lay, cell_wk, wk_mod, ← cell_wk, ← cell_lay]
theorem cell_split (lvl : Nat) : ∀ (m : Nat) (p : Pose) (k : Nat), cell (lvl + m) p k = padd (come lvl m p k).1 (cell lvl (come lvl m p k).2 k)
  | 0, p, k => by
    show cell lvl p k = (0 + (cell lvl p k).1, 0 + (cell lvl p k).2)
    rw [Int.zero_add, Int.zero_add]
  | m + 1, p, k => by
    have ih := cell_split lvl m (inner p (k / 4 ^ (lvl + m) % 4)) k
    rw [← Nat.add_assoc, cell_succ, come_succ, ih]
    unfold padd
    simp only [Int.add_assoc]
/-- corner a, b of the net of level lvl -/
def sqC (lvl : Nat) (a b : Int) : Int × Int := (a * 2 ^ lvl, b * 2 ^ lvl)
def sqi (lvl m : Nat) (p : Pose) (a b : Int) : Nat := (fnd lvl m p (sqC lvl a b)).1
def sqp (lvl m : Nat) (p : Pose) (a b : Int) : Pose := (fnd lvl m p (sqC lvl a b)).2
theorem two_ne (i : Nat) : (2 : Int) ^ i ≠ 0 := by have := two_pos i; omega
theorem come_sq (lvl m : Nat) (p : Pose) (a b : Int) (k : Nat) (ha : 0 ≤ a ∧ a < 2 ^ m) (hb : 0 ≤ b ∧ b < 2 ^ m) (hk : k / 4 ^ lvl % 4 ^ m = sqi lvl m p a b) :
    come lvl m p k = (sqC lvl a b, sqp lvl m p a b) := by
  have h1 := two_pos lvl
  have e := come_fnd lvl m p (sqC lvl a b) k (Int.mul_nonneg ha.1 (Int.le_of_lt h1)) (Int.mul_nonneg hb.1 (Int.le_of_lt h1)) hk
  rw [e]
  unfold sqC sqp
  simp only
  rw [Int.mul_ediv_cancel _ (two_ne lvl), Int.mul_ediv_cancel _ (two_ne lvl), Int.emod_eq_of_lt ha.1 ha.2, Int.emod_eq_of_lt hb.1 hb.2]
  rfl
theorem sqi_lt (lvl m : Nat) (p : Pose) (a b : Int) : sqi lvl m p a b < 4 ^ m := fnd_lt lvl m p _
theorem sq_div (f j S : Nat) (h : j < S) : (f * S + j) / S = f := by
  rw [Nat.add_comm, Nat.add_mul_div_right _ _ (by omega), Nat.div_eq_of_lt h, Nat.zero_add]
theorem sq_mod (f j S : Nat) (h : j < S) : (f * S + j) % S = j := by
  rw [Nat.add_comm, Nat.add_mul_mod_self_right, Nat.mod_eq_of_lt h]
/-- the cells of a net square, place by place -/
theorem cell_sq (lvl m : Nat) (p : Pose) (a b : Int) (j : Nat) (hj : j < 4 ^ lvl) (ha : 0 ≤ a ∧ a < 2 ^ m) (hb : 0 ≤ b ∧ b < 2 ^ m) :
    cell (lvl + m) p (sqi lvl m p a b * 4 ^ lvl + j) = padd (sqC lvl a b) (cell lvl (sqp lvl m p a b) j) := by
  have e := come_sq lvl m p a b (sqi lvl m p a b * 4 ^ lvl + j) ha hb (by rw [sq_div _ _ _ hj, Nat.mod_eq_of_lt (sqi_lt lvl m p a b)])
  rw [cell_split, e]
  simp only
  rw [← cell_mod lvl _ (sqi lvl m p a b * 4 ^ lvl + j), sq_mod _ _ _ hj]
theorem sq_bd (lvl m f j : Nat) (hf : f < 4 ^ m) (hj : j < 4 ^ lvl) : f * 4 ^ lvl + j < 4 ^ (lvl + m) := by
  rw [Nat.pow_add, Nat.mul_comm (4 ^ lvl)]
  have : (f + 1) * 4 ^ lvl ≤ 4 ^ m * 4 ^ lvl := Nat.mul_le_mul_right _ hf
  rw [Nat.add_mul] at this
  omega
theorem num_sq (lvl m : Nat) (p : Pose) (a b : Int) (u : Int × Int) (hu : InSq lvl u) (ha : 0 ≤ a ∧ a < 2 ^ m) (hb : 0 ≤ b ∧ b < 2 ^ m) :
    num (lvl + m) p (padd (sqC lvl a b) u) = sqi lvl m p a b * 4 ^ lvl + num lvl (sqp lvl m p a b) u := by
  have hl := num_lt lvl (sqp lvl m p a b) u
  have e := cell_sq lvl m p a b _ hl ha hb
  rw [cell_num lvl _ u hu] at e
  rw [← e, num_cell]
  exact sq_bd lvl m _ _ (sqi_lt lvl m p a b) hl
theorem sq_in1 (lvl m : Nat) (a u : Int) (ha : 0 ≤ a ∧ a < 2 ^ m) (hu : 0 ≤ u ∧ u < 2 ^ lvl) : 0 ≤ a * 2 ^ lvl + u ∧ a * 2 ^ lvl + u < 2 ^ (lvl + m) := by
  have h1 := two_pos lvl
  have h2 : 0 ≤ a * 2 ^ lvl := Int.mul_nonneg ha.1 (Int.le_of_lt h1)
  have h3 : (a + 1) * 2 ^ lvl ≤ 2 ^ m * 2 ^ lvl := Int.mul_le_mul_of_nonneg_right (by omega) (Int.le_of_lt h1)
  rw [Int.add_mul, Int.one_mul] at h3
  rw [Int.pow_add, Int.mul_comm (2 ^ lvl) (2 ^ m)]
  omega
theorem sq_in (lvl m : Nat) (a b : Int) (u : Int × Int) (hu : InSq lvl u) (ha : 0 ≤ a ∧ a < 2 ^ m) (hb : 0 ≤ b ∧ b < 2 ^ m) : InSq (lvl + m) (padd (sqC lvl a b) u) := by
  obtain ⟨h1, h2, h3, h4⟩ := hu
  have := sq_in1 lvl m a u.1 ha ⟨h1, h2⟩
  have := sq_in1 lvl m b u.2 hb ⟨h3, h4⟩
  unfold InSq padd sqC
  simp only
  omega
theorem zero_in (lvl : Nat) : InSq lvl (0, 0) := by
  have := two_pos lvl
  unfold InSq
  simp only
  omega
theorem padd_zero (c : Int × Int) : padd c (0, 0) = c := by
  unfold padd
  simp only [Int.add_zero]
theorem sqC_in (lvl m : Nat) (a b : Int) (ha : 0 ≤ a ∧ a < 2 ^ m) (hb : 0 ≤ b ∧ b < 2 ^ m) : InSq (lvl + m) (sqC lvl a b) := by
  have := sq_in lvl m a b (0, 0) (zero_in lvl) ha hb
  rwa [padd_zero] at this
def sqD (lvl : Nat) (c : Int × Int) : Dt := .tuple [.int lvl, ptD c]
@[simp] theorem sq0 (l : Nat) (c : Int × Int) : oIx (sqD l c) (.int 0) = some (.int l) := rfl
@[simp] theorem sq1 (l : Nat) (c : Int × Int) : oIx (sqD l c) (.int 1) = some (ptD c) := rfl
@[simp] theorem sq_is (l : Nat) (c : Int × Int) : oIs "tuple" (sqD l c) = some (.bool true) := rfl
@[simp] theorem sq_len (l : Nat) (c : Int × Int) : oLen (sqD l c) = some (.int 2) := rfl
theorem gTp_tup2 (i j : Nat) (x y : Dt) (r : Env) : gTp [i, j] (.tuple [x, y]) r = some ((r.set i (some (.d x))).set j (some (.d y))) := rfl
theorem gTp_tup3 (i j k : Nat) (x y z : Dt) (r : Env) : gTp [i, j, k] (.tuple [x, y, z]) r = some (((r.set i (some (.d x))).set j (some (.d y))).set k (some (.d z))) := rfl
theorem gTp_sq (i j : Nat) (l : Nat) (c : Int × Int) (r : Env) : gTp [i, j] (sqD l c) r = some ((r.set i (some (.d (.int l)))).set j (some (.d (ptD c)))) := rfl
theorem gTp_pt (i j : Nat) (c : Int × Int) (r : Env) : gTp [i, j] (ptD c) r = some ((r.set i (some (.d (.int c.1)))).set j (some (.d (.int c.2)))) := rfl
theorem need_square_ok (lvl m : Nat) (h : lvl + m ≤ 40) (a b : Int) (ha : 0 ≤ a ∧ a < 2 ^ m) (hb : 0 ≤ b ∧ b < 2 ^ m) : G_need_square [.int ((lvl + m : Nat) : Int), sqD lvl (sqC lvl a b)] = some .none := by
  have h1 := is_cell_ok (lvl + m) h _ (sqC_in lvl m a b ha hb)
  have hs : okShl 1 (lvl : Int) = true := okShl_of (by omega) (by omega)
  have h2 := is_among_ok lvl 0 ((lvl + m : Nat) : Int)
  have d1 : decide ((0 : Int) ≤ lvl) = true := decide_eq_true (by omega)
  have d2 : decide ((lvl : Int) ≤ ((lvl + m : Nat) : Int)) = true := decide_eq_true (by omega)
  have hp := two_pos lvl
  have z1 : (sqC lvl a b).1 % 2 ^ lvl = 0 := Int.mul_emod_left _ _
  have z2 : (sqC lvl a b).2 % 2 ^ lvl = 0 := Int.mul_emod_left _ _
  rw [d1, d2] at h2
  rw [G_need_square_ap]
  generalize ((lvl + m : Nat) : Int) = n at *
  generalize sqC lvl a b = C at *
  simp [F_need_square, h2, h1, hs, hp, z1, z2]
theorem stretch_of_ok (lvl m : Nat) (h : lvl + m ≤ 40) (p : Pose) (a b : Int) (ha : 0 ≤ a ∧ a < 2 ^ m) (hb : 0 ≤ b ∧ b < 2 ^ m) :
    G_stretch_of [.int ((lvl + m : Nat) : Int), p.d, sqD lvl (sqC lvl a b)] = some (.tuple [.int ((sqi lvl m p a b * 4 ^ lvl : Nat) : Int), .int (((sqi lvl m p a b * 4 ^ lvl : Nat) : Int) + 4 ^ lvl - 1)]) := by
  have h1 := need_square_ok lvl m h a b ha hb
  have h0 := need_size_ok (lvl + m) h
  have hin := sqC_in lvl m a b ha hb
  have h2 := found_at_ok lvl m p (sqC lvl a b) ⟨hin.1, hin.2.2.1⟩ (by omega)
  have h3 := cells_of_ok lvl (by omega)
  have h4 := pow4_le (j := m) (by omega)
  have h5 := pow4_le (j := lvl) (by omega)
  have h6 := sqi_lt lvl m p a b
  have hm : okMul ((sqi lvl m p a b : Nat) : Int) (4 ^ lvl) = true := okMul_of (by omega) (by omega) (by have := four_pos lvl; omega) (by rw [← cast4]; omega)
  have hs : sizeOk 2 = true := by decide
  rw [G_stretch_of_ap, Int.natCast_mul, cast4]
  unfold sqi at *
  generalize ((lvl + m : Nat) : Int) = n at *
  generalize hC : sqC lvl a b = C at *
  simp [F_stretch_of, h0, need_pose_ok, h1, h2, h3, hm, hs, atD, h3]
theorem pose_in_ok (lvl m : Nat) (h : lvl + m ≤ 40) (p : Pose) (a b : Int) (ha : 0 ≤ a ∧ a < 2 ^ m) (hb : 0 ≤ b ∧ b < 2 ^ m) :
    G_pose_in [.int ((lvl + m : Nat) : Int), p.d, sqD lvl (sqC lvl a b)] = some (sqp lvl m p a b).d := by
  have h1 := need_square_ok lvl m h a b ha hb
  have h0 := need_size_ok (lvl + m) h
  have hin := sqC_in lvl m a b ha hb
  have h2 := found_at_ok lvl m p (sqC lvl a b) ⟨hin.1, hin.2.2.1⟩ (by omega)
  have hs : sizeOk 2 = true := by decide
  rw [G_pose_in_ap]
  unfold sqp at *
  generalize ((lvl + m : Nat) : Int) = n at *
  generalize hC : sqC lvl a b = C at *
  simp [F_pose_in, h0, need_pose_ok, h1, h2, hs, atD]
theorem law_square_ok (c k : Int) (n : Nat) (hn : n ≤ 40) (h0 : 0 ≤ k) (h1 : k ≤ 800) : ∃ (lvl m : Nat) (a b : Int), lvl + m = n ∧ (0 ≤ a ∧ a < 2 ^ m) ∧ (0 ≤ b ∧ b < 2 ^ m) ∧ G_law_square [.int c, .int k, .int n] = some (sqD lvl (sqC lvl a b)) := by
  have m1 := mixed_ok c k h0 (by omega)
  have m2 := mixed_ok c (k + 1) (by omega) (by omega)
  have b1 := mixed_bd c k
  generalize mixed c k = u at *
  generalize mixed c (k + 1) = v at *
  obtain ⟨l, hl, hle⟩ : ∃ l : Nat, u % ((n : Int) + 1) = l ∧ l ≤ n := by
    have p1 := Int.emod_nonneg u (show (n : Int) + 1 ≠ 0 by omega)
    have p2 := Int.emod_lt_of_pos u (show 0 < (n : Int) + 1 by omega)
    exact ⟨(u % ((n : Int) + 1)).toNat, by omega, by omega⟩
  obtain ⟨lvl, hlv, e4⟩ : ∃ lvl : Nat, lvl ≤ n ∧ atD [.int 0, .int n, .int l, .int l] (v % 4) = some (.int lvl) := by
    have hh : v % 4 = 0 ∨ v % 4 = 1 ∨ v % 4 = 2 ∨ v % 4 = 3 := by omega
    rcases hh with h | h | h | h <;> rw [h]
    · exact ⟨0, by omega, rfl⟩
    · exact ⟨n, by omega, rfl⟩
    · exact ⟨l, by omega, rfl⟩
    · exact ⟨l, by omega, rfl⟩
  obtain ⟨m, rfl⟩ : ∃ m, n = lvl + m := ⟨n - lvl, by omega⟩
  obtain ⟨a, a0, a1, ea⟩ := among_side c (k + 2) m (by omega) (by omega)
  obtain ⟨b, b0, b1', eb⟩ := among_side c (k + 3) m (by omega) (by omega)
  refine ⟨lvl, m, a, b, rfl, ⟨a0, a1⟩, ⟨b0, b1'⟩, ?_⟩
  have s1 := side_ok lvl (by omega)
  have s2 := side_ok m (by omega)
  have e1 : ((lvl + m : Nat) : Int) - lvl = m := by omega
  have l1 := two_le m (by omega)
  have l2 := two_le lvl (by omega)
  have l3 := two_pos lvl
  have hm1 : okMul a (2 ^ lvl) = true := okMul_of (by omega) (by omega) (by omega) (by omega)
  have hm2 : okMul b (2 ^ lvl) = true := okMul_of (by omega) (by omega) (by omega) (by omega)
  have hs2 : sizeOk 2 = true := by decide
  have hs4 : sizeOk 4 = true := by decide
  have hp : (0 : Int) < ((lvl + m : Nat) : Int) + 1 := by omega
  rw [G_law_square_ap]
  generalize ((lvl + m : Nat) : Int) = n at *
  simp [F_law_square, m1, m2, hp, hl, hs4, e4, s1, s2, e1, ea, eb, hm1, hm2, hs2, sqD, ptD, sqC]
end BL

set_option linter.all false
set_option maxRecDepth 100000
set_option maxHeartbeats 1000000
namespace BL
open PySem
/-! ### the walk of net squares -/
theorem sqC_add (lvl m : Nat) (s q : Int × Int) : ((s.1 * 2 ^ (lvl + m) + q.1 * 2 ^ lvl, s.2 * 2 ^ (lvl + m) + q.2 * 2 ^ lvl) : Int × Int) = sqC lvl (s.1 * 2 ^ m + q.1) (s.2 * 2 ^ m + q.2) := by
  unfold sqC
  rw [Int.add_mul, Int.add_mul, Int.pow_add, Int.mul_assoc, Int.mul_assoc, Int.mul_comm (2 ^ m) (2 ^ lvl)]
theorem come_scaled (lvl : Nat) : ∀ (m : Nat) (p : Pose) (k : Nat), come lvl m p k = (sqC lvl (come 0 m p (k / 4 ^ lvl)).1.1 (come 0 m p (k / 4 ^ lvl)).1.2, (come 0 m p (k / 4 ^ lvl)).2)
  | 0, p, k => by
    show ((0, 0), p) = (((0 : Int) * 2 ^ lvl, (0 : Int) * 2 ^ lvl), p)
    rw [Int.zero_mul]
  | m + 1, p, k => by
    have e : k / 4 ^ (lvl + m) = k / 4 ^ lvl / 4 ^ m := by rw [Nat.div_div_eq_div_mul, ← Nat.pow_add]
    rw [come_succ, come_succ 0, Nat.zero_add, e, come_scaled lvl m]
    simp only
    rw [show (sqC lvl (come 0 m (inner p (k / 4 ^ lvl / 4 ^ m % 4)) (k / 4 ^ lvl)).1.1 (come 0 m (inner p (k / 4 ^ lvl / 4 ^ m % 4)) (k / 4 ^ lvl)).1.2).1 = (come 0 m (inner p (k / 4 ^ lvl / 4 ^ m % 4)) (k / 4 ^ lvl)).1.1 * 2 ^ lvl from rfl,
      show (sqC lvl (come 0 m (inner p (k / 4 ^ lvl / 4 ^ m % 4)) (k / 4 ^ lvl)).1.1 (come 0 m (inner p (k / 4 ^ lvl / 4 ^ m % 4)) (k / 4 ^ lvl)).1.2).2 = (come 0 m (inner p (k / 4 ^ lvl / 4 ^ m % 4)) (k / 4 ^ lvl)).1.2 * 2 ^ lvl from rfl]
    rw [sqC_add]
/-- the net square of an index -/
def cor (lvl m : Nat) (p : Pose) (i : Nat) : Int × Int := sqC lvl (cell m p i).1 (cell m p i).2
theorem cor_come (lvl m : Nat) (p : Pose) (i : Nat) : (come lvl m p (i * 4 ^ lvl)).1 = cor lvl m p i := by
  rw [come_scaled, Nat.mul_div_cancel _ (Nat.pow_pos (by decide))]
  rfl
theorem cell_ab (m : Nat) (p : Pose) (i : Nat) : (0 ≤ (cell m p i).1 ∧ (cell m p i).1 < 2 ^ m) ∧ (0 ≤ (cell m p i).2 ∧ (cell m p i).2 < 2 ^ m) := by
  obtain ⟨a, b, c, d⟩ := cell_in_sq m p i
  exact ⟨⟨a, b⟩, ⟨c, d⟩⟩
theorem sqi_cor (lvl m : Nat) (p : Pose) (i : Nat) (hi : i < 4 ^ m) : sqi lvl m p (cell m p i).1 (cell m p i).2 = i := by
  have h0 := two_pos lvl
  have e := fnd_come lvl m p (i * 4 ^ lvl) 0 0 (by omega) h0 (by omega) h0
  rw [cor_come] at e
  simp only [Int.add_zero] at e
  unfold sqi
  rw [show sqC lvl (cell m p i).1 (cell m p i).2 = ((cor lvl m p i).1, (cor lvl m p i).2) from rfl, e]
  simp only
  rw [Nat.mul_div_cancel _ (Nat.pow_pos (by decide)), Nat.mod_eq_of_lt hi]
theorem net_square_ok (lvl m : Nat) (h : lvl + m ≤ 40) (p : Pose) (i : Nat) (hi : i < 4 ^ m) : G_net_square [.int ((lvl + m : Nat) : Int), p.d, .int lvl, .int i] = some (sqD lvl (cor lvl m p i)) := by
  have h1 := come_to_ok lvl m p (i * 4 ^ lvl) (by omega)
  rw [cor_come] at h1
  have h2 := cells_of_ok lvl (by omega)
  have h4 := pow4_le (j := m) (by omega)
  have h5 := pow4_le (j := lvl) (by omega)
  have hm : okMul (i : Int) (4 ^ lvl) = true := okMul_of (by omega) (by omega) (by have := four_pos lvl; omega) (by rw [← cast4]; omega)
  have hs : sizeOk 2 = true := by decide
  rw [Int.natCast_mul, cast4] at h1
  rw [G_net_square_ap]
  generalize ((lvl + m : Nat) : Int) = n at *
  generalize cor lvl m p i = C at *
  simp [-gTp, gTp_tup3, F_net_square, h2, hm, h1, hs, sqD, ptD]
theorem square_at_ok (lvl m : Nat) (h : lvl + m ≤ 40) (p : Pose) (i : Nat) (hi : i < 4 ^ m) : G_square_at [.int ((lvl + m : Nat) : Int), p.d, .int lvl, .int i] = some (sqD lvl (cor lvl m p i)) := by
  have h1 := net_square_ok lvl m h p i hi
  have h2 := need_size_ok (lvl + m) h
  have h3 := need_number_ok (lvl : Int) ((lvl + m : Nat) : Int) (by omega) (by omega)
  have h4 := need_number_ok (i : Int) (4 ^ m - 1) (by omega) (by rw [← cast4]; omega)
  have h5 := cells_of_ok m (by omega)
  have e : ((lvl + m : Nat) : Int) - lvl = m := by omega
  rw [G_square_at_ap]
  generalize ((lvl + m : Nat) : Int) = n at *
  simp [F_square_at, h2, need_pose_ok, h3, e, h5, h4, h1]
/-! ### neighbours -/
def near (c d : Int × Int) : Prop := (c.1 - d.1).natAbs + (c.2 - d.2).natAbs = 1
theorem wk_zero : ∀ n : Nat, wk n 0 = (0, 0)
  | 0 => rfl
  | n + 1 => by
    show tq n (0 / 4 ^ n % 4) (wk n 0) = (0, 0)
    rw [wk_zero n, Nat.zero_div]
    rfl
theorem wk_last : ∀ n : Nat, wk n (4 ^ n - 1) = (2 ^ n - 1, 0)
  | 0 => rfl
  | n + 1 => by
    have hp : 0 < 4 ^ n := Nat.pow_pos (by decide)
    have e1 : 4 ^ (n + 1) - 1 = 3 * 4 ^ n + (4 ^ n - 1) := by rw [Nat.pow_succ]; omega
    show tq n ((4 ^ (n + 1) - 1) / 4 ^ n % 4) (wk n (4 ^ (n + 1) - 1)) = _
    rw [← wk_mod n (4 ^ (n + 1) - 1), e1, sq_div _ _ _ (by omega), sq_mod _ _ _ (by omega), wk_last n]
    have e2 : (2 : Int) ^ (n + 1) = 2 * 2 ^ n := by rw [Int.pow_succ]; omega
    rw [e2]
    simp [tq]
theorem near_tq (n d : Nat) (b c : Int × Int) (h : near b c) : near (tq n d b) (tq n d c) := by
  unfold near at *
  unfold tq
  split
  · simp only; omega
  · split
    · simp only; omega
    · simp only; omega
theorem wk_near : ∀ (n k : Nat), k + 1 < 4 ^ n → near (wk n k) (wk n (k + 1))
  | 0, k, h => by simp at h
  | n + 1, k, h => by
    have hp : 0 < 4 ^ n := Nat.pow_pos (by decide)
    show near (tq n (k / 4 ^ n % 4) (wk n k)) (tq n ((k + 1) / 4 ^ n % 4) (wk n (k + 1)))
    rw [Nat.pow_succ] at h
    have hk := Nat.div_add_mod k (4 ^ n)
    have hr := Nat.mod_lt k hp
    have hd : k / 4 ^ n < 4 := Nat.div_lt_of_lt_mul (by omega)
    generalize k / 4 ^ n = d at *
    generalize hrr : k % 4 ^ n = r at *
    rw [Nat.mul_comm] at hk
    rw [← wk_mod n k, hrr, Nat.mod_eq_of_lt hd]
    by_cases hl : r + 1 < 4 ^ n
    · have e1 : k + 1 = d * 4 ^ n + (r + 1) := by omega
      rw [e1, sq_div _ _ _ hl, Nat.mod_eq_of_lt hd, ← wk_mod n (d * 4 ^ n + (r + 1)), sq_mod _ _ _ hl]
      exact near_tq n d _ _ (wk_near n r hl)
    · have er : r = 4 ^ n - 1 := by omega
      have e1 : k + 1 = (d + 1) * 4 ^ n + 0 := by rw [Nat.add_mul]; omega
      have hd3 : d < 3 := by
        refine Nat.lt_of_not_le fun h3 => ?_
        have : 3 * 4 ^ n ≤ d * 4 ^ n := Nat.mul_le_mul_right _ h3
        omega
      rw [e1, sq_div _ _ _ hp, Nat.mod_eq_of_lt (show d + 1 < 4 by omega), ← wk_mod n ((d + 1) * 4 ^ n + 0), sq_mod _ _ _ hp, er, wk_last, wk_zero]
      have h2 := two_pos n
      match d, hd3 with
      | 0, _ => unfold near; simp [tq]; omega
      | 1, _ => unfold near; simp [tq]; omega
      | 2, _ => unfold near; simp [tq]; omega
theorem near_lay (p : Pose) (m : Int) (b c : Int × Int) (h : near b c) : near (lay p m b) (lay p m c) := by
  unfold near at *
  cases p <;> simp only [lay] <;> omega
theorem cell_near (n : Nat) (p : Pose) (k : Nat) (h : k + 1 < 4 ^ n) : near (cell n p k) (cell n p (k + 1)) := by
  rw [cell_lay, cell_lay n p (k + 1), cell_wk, cell_wk]
  exact near_lay p _ _ _ (wk_near n k h)
end BL

set_option linter.all false
set_option maxRecDepth 100000
set_option maxHeartbeats 4000000
namespace BL
open PySem
/-! ### strolls: what their methods give -/
theorem up_need_size : UpX G_need_size X_need_size := upx_run (up_if up_never up_refl)
theorem up_need_pose : UpX G_need_pose X_need_pose := upx_run (up_if up_never up_refl)
theorem up_need_number : UpX G_need_number X_need_number := upx_run (up_if up_never up_refl)
theorem up_need_cell : UpX G_need_cell X_need_cell := upx_run (up_if up_never up_refl)
theorem up_number_of : UpX G_number_of X_number_of := upx_run (up_seq (up_drop up_need_size) (up_seq (up_drop up_need_pose) (up_seq (up_drop up_need_cell) up_refl)))
theorem up_cell_at : UpX G_cell_at X_cell_at := upx_run (up_seq (up_drop up_need_size) (up_seq (up_drop up_need_pose) (up_seq (up_drop up_need_number) up_refl)))
theorem okOf_up {G : List Dt → Option Dt} {X : FX} (u : UpX G X) {ds : List Dt} {d : Dt} (h : G ds = some d) : okOf X ds = some d := by
  unfold okOf
  rw [u _ _ h]
  rfl
theorem cellOk (n : Nat) (h : n ≤ 40) (p : Pose) (k : Nat) (hk : k < 4 ^ n) : okOf X_cell_at [.int n, p.d, .int k] = some (ptD (cell n p k)) := okOf_up up_cell_at (cell_at_ok n h p k hk)
def st3 (n : Nat) (p : Pose) (a : Nat) : List Dt := [.int n, p.d, .int a]
theorem startB1 (n : Nat) (b : Bool) (a : Nat) (xs ds : List Dt) : startB n b [(true, a, xs)] ds = some (.obj b true a xs) :: startD (n - 1) ds := rfl
theorem M_number_ok (s n a : Nat) (p : Pose) : M_number s (st3 n p a) [] = some (.ok (.int a)) := rfl
theorem M_here_ok (s n a : Nat) (h : n ≤ 40) (p : Pose) (ha : a < 4 ^ n) : M_here s (st3 n p a) [] = some (.ok (ptD (cell n p a))) := by
  have := cellOk n h p a ha
  simp [M_here, runMR, startB1, startD, FX_Stroll_here, st3, this]
/-! the ways -/
def wayS (c d : Int × Int) : Str := if d.1 - c.1 = 1 then "right" else if d.1 - c.1 = -1 then "left" else if d.2 - c.2 = 1 then "up" else "down"
def wayL (n : Nat) (p : Pose) : Nat → Nat → List Dt
  | _, 0 => []
  | a, c + 1 => .str (wayS (cell n p a) (cell n p (a + 1))) :: wayL n p (a + 1) c
theorem near_cases {c d : Int × Int} (h : near c d) : (d.1 - c.1 = 1 ∧ d.2 - c.2 = 0) ∨ (d.1 - c.1 = -1 ∧ d.2 - c.2 = 0) ∨ (d.1 - c.1 = 0 ∧ d.2 - c.2 = 1) ∨ (d.1 - c.1 = 0 ∧ d.2 - c.2 = -1) := by
  unfold near at h
  omega
theorem look_W {c d : Int × Int} (h : near c d) : tab_WAYS.lookup (d.1 - c.1, d.2 - c.2) = some (wayS c d) := by
  unfold wayS
  rcases near_cases h with ⟨h1, h2⟩ | ⟨h1, h2⟩ | ⟨h1, h2⟩ | ⟨h1, h2⟩ <;> rw [h1, h2] <;> rfl
theorem look_L {c d : Int × Int} (h : near c d) : ([((1, 0), "right"), (((-1), 0), "left"), ((0, 1), "up"), ((0, (-1)), "down")] : List Way).lookup (d.1 - c.1, d.2 - c.2) = some (wayS c d) := by
  unfold wayS
  rcases near_cases h with ⟨h1, h2⟩ | ⟨h1, h2⟩ | ⟨h1, h2⟩ | ⟨h1, h2⟩ <;> rw [h1, h2] <;> rfl
theorem ways_loop (n : Nat) (hn : n ≤ 40) (p : Pose) (s b a0 : Nat) (x1 : Option Sl) : ∀ (c a : Nat) (acc : List Dt) (x4 x5 : Option Sl), acc.length + c ≤ 1000 → a + c < 4 ^ n →
    ∃ x4' x5', forGo (gNm 4) B_Stroll_ways_1 (rngD ((a : Int) + 1) c) [some (.obj false true s (st3 n p b)), x1, some (.own acc), some (.d (ptD (cell n p a))), x4, x5] =
      some (.nx [some (.obj false true s (st3 n p b)), x1, some (.own (acc ++ wayL n p a c)), some (.d (ptD (cell n p (a + c)))), x4', x5']) := by
  intro c
  induction c with
  | zero => exact fun a acc x4 x5 _ _ => ⟨x4, x5, by simp [wayL, rngD]⟩
  | succ c ih =>
    intro a acc x4 x5 hl ha
    have e1 := cellOk n hn p (a + 1) (by omega)
    have hnr := look_W (cell_near n p a (by omega))
    have hsz : sizeOk acc.length = true := by unfold sizeOk; simp; omega
    have s2 : sizeOk 2 = true := by decide
    have ht : B_Stroll_ways_1 [some (.obj false true s (st3 n p b)), x1, some (.own acc), some (.d (ptD (cell n p a))), some (.d (.int ((a : Int) + 1))), x5] =
        some (.nx [some (.obj false true s (st3 n p b)), x1, some (.own (acc ++ [.str (wayS (cell n p a) (cell n p (a + 1)))])), some (.d (ptD (cell n p (a + 1)))), some (.d (.int ((a : Int) + 1))), some (.d (ptD (cell n p (a + 1))))]) := by
      have e1' : okOf X_cell_at [.int n, p.d, .int ((a : Int) + 1)] = some (ptD (cell n p (a + 1))) := e1
      simp [B_Stroll_ways_1, st3, e1', hsz]
      simp [ptD, atD, hnr, s2]
    obtain ⟨x4', x5', e⟩ := ih (a + 1) (acc ++ [.str (wayS (cell n p a) (cell n p (a + 1)))]) (some (.d (.int ((a : Int) + 1)))) (some (.d (ptD (cell n p (a + 1))))) (by simp; omega) (by omega)
    refine ⟨x4', x5', ?_⟩
    rw [rngD_succ, forGo_nx rfl ht, show (a : Int) + 1 + 1 = ((a + 1 : Nat) : Int) + 1 by omega, e, show a + 1 + c = a + (c + 1) by omega]
    simp [wayL]
def cn (n a k : Nat) : Nat := min (a + k) (4 ^ n - 1) - a
theorem cn_le (n a k : Nat) : cn n a k ≤ k := by unfold cn; omega
theorem cn_lt (n a k : Nat) (ha : a < 4 ^ n) : a + cn n a k < 4 ^ n := by unfold cn; omega
theorem rngW_of {f g : FE} {r : Env} (n a k : Nat) (h1 : f r = some (.int ((a : Int) + 1))) (h2 : g r = some (.int ((if (4 : Int) ^ n - 1 < (a : Int) + k then (4 : Int) ^ n - 1 else (a : Int) + k) + 1))) (ha : a < 4 ^ n) : iRngW f g r = some (rngD ((a : Int) + 1) (cn n a k)) := by
  unfold iRngW
  rw [h1, h2]
  simp only [Option.bind_some]
  congr 2
  have c4 := cast4 n
  unfold cn
  split <;> omega
theorem ways_F (n : Nat) (hn : n ≤ 40) (p : Pose) (s a k : Nat) (ha : a < 4 ^ n) (hk : k ≤ 1000) :
    FX_Stroll_ways [some (.obj false true s (st3 n p a)), some (.d (.int k)), none, none, none, none] = some (.rl (wayL n p a (cn n a k))) := by
  have hc := cells_of_ok n (by omega)
  have s0 : sizeOk 0 = true := by decide
  have hk2 : (k : Int) ≤ 1000 := by omega
  have hh := M_here_ok s n a hn p ha
  obtain ⟨x4, x5, e⟩ := ways_loop n hn p s a 0 (some (.d (.int k))) (cn n a k) a [] none none (by have := cn_le n a k; simp; omega) (cn_lt n a k ha)
  have hr := rngW_of (f := eOp oAdd (eFld 0 2) (eC (.int 1))) (g := eOp oAdd (eCall (c2 oMin2) (aCons (eOp oAdd (eFld 0 2) (eVar 1)) (aCons (eOp oSub (eCall G_cells_of (aCons (eFld 0 0) aNil)) (eC (.int 1))) aNil))) (eC (.int 1)))
    (r := [some (.obj false true s (st3 n p a)), some (.d (.int k)), some (.own []), some (.d (ptD (cell n p a))), none, none]) n a k (by simp [st3]) (by simp [st3, hc, c2, oMin2]) ha
  simp [FX_Stroll_ways, is_among_ok, d_MOST_WAYS, hk2, s0, hh, okD, hr, e]
theorem M_ways_ok (s n a k : Nat) (hn : n ≤ 40) (p : Pose) (ha : a < 4 ^ n) (hk : k ≤ 1000) : M_ways s (st3 n p a) [.int k] = some (.ok (.list (wayL n p a (cn n a k)))) := by
  have := ways_F n hn p s a k ha hk
  unfold M_ways runMR
  rw [startB1]
  simp [startD, this]
theorem MO_ways_ok (s n a k : Nat) (hn : n ≤ 40) (p : Pose) (ha : a < 4 ^ n) (hk : k ≤ 1000) : MO_ways s (st3 n p a) [.int k] = some (wayL n p a (cn n a k)) := by
  have := ways_F n hn p s a k ha hk
  unfold MO_ways runMO
  rw [startB1]
  simp [startD, this]
/-! the law's own ways -/
theorem lways_loop (n : Nat) (hn : n ≤ 40) (p : Pose) (x0' : Option Sl) (x2 x3 : Option Sl) : ∀ (c a : Nat) (acc : List Dt) (x6 x7 x8 : Option Sl), acc.length + c ≤ 1000 → a + c < 4 ^ n →
    ∃ x6' x7' x8', forGo (gNm 6) B_law_ways_1 (rngD ((a : Int) + 1) c) [some (.d (.int n)), some (.d p.d), x2, x3, some (.own acc), some (.d (ptD (cell n p a))), x6, x7, x8] =
      some (.nx [some (.d (.int n)), some (.d p.d), x2, x3, some (.own (acc ++ wayL n p a c)), some (.d (ptD (cell n p (a + c)))), x6', x7', x8']) := by
  intro c
  induction c with
  | zero => exact fun a acc x6 x7 x8 _ _ => ⟨x6, x7, x8, by simp [wayL, rngD]⟩
  | succ c ih =>
    intro a acc x6 x7 x8 hl ha
    have e1 : G_law_walked [.int n, p.d, .int ((a : Int) + 1)] = some (ptD (cell n p (a + 1))) := walked_ok n hn p (a + 1)
    have hnr := look_L (cell_near n p a (by omega))
    have hsz : sizeOk acc.length = true := by unfold sizeOk; simp; omega
    have s2 : sizeOk 2 = true := by decide
    have ht : B_law_ways_1 [some (.d (.int n)), some (.d p.d), x2, x3, some (.own acc), some (.d (ptD (cell n p a))), some (.d (.int ((a : Int) + 1))), x7, x8] =
        some (.nx [some (.d (.int n)), some (.d p.d), x2, x3, some (.own (acc ++ [.str (wayS (cell n p a) (cell n p (a + 1)))])), some (.d (ptD (cell n p (a + 1)))), some (.d (.int ((a : Int) + 1))), some (.d (ptD (cell n p (a + 1)))), some (.d (.tuple [.int ((cell n p (a + 1)).1 - (cell n p a).1), .int ((cell n p (a + 1)).2 - (cell n p a).2)]))]) := by
      simp [B_law_ways_1, e1, hsz]
      simp only [ptD, atD]
      simp [s2]
      rw [hnr]
      simp [hsz]
    obtain ⟨x6', x7', x8', e⟩ := ih (a + 1) (acc ++ [.str (wayS (cell n p a) (cell n p (a + 1)))]) (some (.d (.int ((a : Int) + 1)))) (some (.d (ptD (cell n p (a + 1))))) (some (.d (.tuple [.int ((cell n p (a + 1)).1 - (cell n p a).1), .int ((cell n p (a + 1)).2 - (cell n p a).2)]))) (by simp; omega) (by omega)
    refine ⟨x6', x7', x8', ?_⟩
    rw [rngD_succ, forGo_nx rfl ht, show (a : Int) + 1 + 1 = ((a + 1 : Nat) : Int) + 1 by omega, e, show a + 1 + c = a + (c + 1) by omega]
    simp [wayL]
theorem law_ways_ok (n : Nat) (hn : n ≤ 40) (p : Pose) (a k : Nat) (ha : a < 4 ^ n) (hk : k ≤ 1000) : G_law_ways [.int n, p.d, .int a, .int k] = some (.list (wayL n p a (cn n a k))) := by
  have hm := many_ok n (by omega)
  have s0 : sizeOk 0 = true := by decide
  have hw := walked_ok n hn p a
  obtain ⟨x6, x7, x8, e⟩ := lways_loop n hn p none (some (.d (.int a))) (some (.d (.int k))) (cn n a k) a [] none none none (by have := cn_le n a k; simp; omega) (cn_lt n a k ha)
  have hr := rngW_of (f := eOp oAdd (eVar 2) (eC (.int 1))) (g := eOp oAdd (eCall (c2 oMin2) (aCons (eOp oAdd (eVar 2) (eVar 3)) (aCons (eOp oSub (eCall G_law_many (aCons (eVar 0) aNil)) (eC (.int 1))) aNil))) (eC (.int 1)))
    (r := [some (.d (.int n)), some (.d p.d), some (.d (.int a)), some (.d (.int k)), some (.own []), some (.d (ptD (cell n p a))), none, none, none]) n a k (by simp) (by simp [hm, c2, oMin2]) ha
  simp [G_law_ways_ap, F_law_ways, s0, hw, hr, e]
/-! moves -/
theorem putObj0 (s : Nat) (x y z w : Dt) (t : Env) : putObj 0 2 w (some (.obj true true s [x, y, z]) :: t) = some (some (.obj true true s [x, y, w]) :: t) := rfl
theorem MW_go_ok (s n a b : Nat) (hn : n ≤ 40) (p : Pose) (k : Int) (hb : b < 4 ^ n) (hk : (a : Int) + k = b) : MW_go s (st3 n p a) [.int k] = some (st3 n p b) := by
  have hc := cells_of_ok n (by omega)
  have c4 := cast4 n
  have h1 : (0 : Int) ≤ a + k := by omega
  have h2 : (a : Int) + k < 4 ^ n := by omega
  have h3 : ¬ (4 : Int) ^ n ≤ b := by omega
  have h0 : (0 : Int) ≤ b := by omega
  unfold MW_go runMW
  rw [startB1]
  simp [startD, FX_Stroll_go, st3, hc, oIs, isD, kindD, oLe, oLt, h1, h2, hk, h0, h3, putObj0, objAt]
theorem MW_to_ok (s n a : Nat) (hn : n ≤ 40) (p : Pose) (c : Int × Int) (hc : InSq n c) : MW_to s (st3 n p a) [ptD c] = some (st3 n p (num n p c)) := by
  have h := up_number_of _ _ (number_of_ok n hn p c hc)
  unfold MW_to runMW
  rw [startB1]
  simp [startD, FX_Stroll_to, st3, h, putObj0, objAt]
/-! refusals -/
def kwR (z : Except String Dt) : Option Dt := match z with
  | .ok _ => W_law_word none
  | .error c => if okC_k14 c = true then W_law_word (some c) else none
theorem eKW_eq (g : FX) (t : FA) (r : Env) : eKW okC_k14 W_law_word g t r = (t r).bind fun ds => (g ds).bind kwR := by
  unfold eKW
  rfl
def wl (s : Str) : Dt := .list [.str s]
theorem kw_number : kwR (.error "BadNumber") = some (wl "number") := by kernel_rfl
theorem kw_cell : kwR (.error "BadCell") = some (wl "cell") := by kernel_rfl
theorem eq_wl_number : oEq (wl "number") (.list [.str "number"]) = some (.bool true) := by kernel_rfl
theorem eq_wl_cell : oEq (wl "cell") (.list [.str "cell"]) = some (.bool true) := by kernel_rfl
/-- no number from 0 on below a bound -/
def NoN (b : Int) (d : Dt) : Prop := ∀ lo hi : Int, 0 ≤ lo → hi < b → G_is_among [d, .int lo, .int hi] = some (.bool false)
theorem non_int {b i : Int} (h : i < 0 ∨ b ≤ i) : NoN b (.int i) := fun lo hi h1 h2 => by
  rw [is_among_ok]
  by_cases q : lo ≤ i
  · have : ¬ i ≤ hi := by omega
    simp [this]
  · simp [q]
theorem non_bool {b : Int} (x : Bool) : NoN b (.bool x) := fun lo hi h1 h2 => by rw [G_is_among_ap]; simp [F_is_among, oIs, isD, kindD]
theorem non_none {b : Int} : NoN b .none := fun lo hi h1 h2 => by rw [G_is_among_ap]; simp [F_is_among, oIs, isD, kindD]
theorem non_str {b : Int} (x : Str) : NoN b (.str x) := fun lo hi h1 h2 => by rw [G_is_among_ap]; simp [F_is_among, oIs, isD, kindD]
theorem non_list {b : Int} (x : List Dt) : NoN b (.list x) := fun lo hi h1 h2 => by rw [G_is_among_ap]; simp [F_is_among, oIs, isD, kindD]
theorem non_tup {b : Int} (x : List Dt) : NoN b (.tuple x) := fun lo hi h1 h2 => by rw [G_is_among_ap]; simp [F_is_among, oIs, isD, kindD]
theorem non_dict {b : Int} : NoN b (.dict []) := fun lo hi h1 h2 => by rw [G_is_among_ap]; simp [F_is_among, oIs, isD, kindD]
/-- what is no number at all -/
def Odd (d : Dt) : Prop := d = .bool true ∨ d = .none ∨ d = .str "1" ∨ d = .list [.int 1] ∨ d = .tuple [.int 1] ∨ d = .dict [] ∨ d = .bool false
theorem Odd.non {b : Int} {d : Dt} (h : Odd d) : NoN b d := by
  rcases h with rfl | rfl | rfl | rfl | rfl | rfl | rfl
  · exact non_bool _
  · exact non_none
  · exact non_str _
  · exact non_list _
  · exact non_tup _
  · exact non_dict
  · exact non_bool _
theorem cell_no_tup {n d : Dt} (h : oIs "tuple" d = some (.bool false)) : G_is_cell [n, d] = some (.bool false) := by
  simp [G_is_cell_ap, F_is_cell, h]
theorem cell_no_len {n : Dt} {xs : List Dt} (h : xs.length ≠ 2) : G_is_cell [n, .tuple xs] = some (.bool false) := by
  have : ¬ ((xs.length : Int) = 2) := by omega
  simp [G_is_cell_ap, F_is_cell, this]
theorem cell_no_x (n : Nat) (hn : n ≤ 40) {d e : Dt} (h : NoN (2 ^ n) d) : G_is_cell [.int n, .tuple [d, e]] = some (.bool false) := by
  have hs : okShl 1 (n : Int) = true := okShl_of (by omega) (by omega)
  have := h 0 (2 ^ n - 1) (by omega) (by omega)
  simp [G_is_cell_ap, F_is_cell, hs, atD, this]
theorem cell_no_y (n : Nat) (hn : n ≤ 40) {x : Int} {e : Dt} (h0 : 0 ≤ x) (h1 : x < 2 ^ n) (h : NoN (2 ^ n) e) : G_is_cell [.int n, .tuple [.int x, e]] = some (.bool false) := by
  have hs : okShl 1 (n : Int) = true := okShl_of (by omega) (by omega)
  have := h 0 (2 ^ n - 1) (by omega) (by omega)
  have h2 : x ≤ 2 ^ n - 1 := by omega
  simp [G_is_cell_ap, F_is_cell, hs, atD, this, is_among_ok, h0, h2]
theorem Odd.cell {n : Dt} {d : Dt} (h : Odd d) : G_is_cell [n, d] = some (.bool false) := by
  rcases h with rfl | rfl | rfl | rfl | rfl | rfl | rfl
  · exact cell_no_tup rfl
  · exact cell_no_tup rfl
  · exact cell_no_tup rfl
  · exact cell_no_tup rfl
  · exact cell_no_len (by decide)
  · exact cell_no_tup rfl
  · exact cell_no_tup rfl
theorem xs_good {n : Nat} (hn : n ≤ 40) : X_need_size [.int n] = some (.ok .none) := up_need_size _ _ (need_size_ok n hn)
theorem xp_good (p : Pose) : X_need_pose [p.d] = some (.ok .none) := up_need_pose _ _ (need_pose_ok p)
theorem xc_bad {n d : Dt} (h : G_is_cell [n, d] = some (.bool false)) : X_need_cell [n, d] = some (.error "BadCell") := by
  simp [X_need_cell_ap, FX_need_cell, h]
theorem M_go_odd (s n a : Nat) (p : Pose) {d : Dt} (h : Odd d) : M_go s (st3 n p a) [d] = some (.error "BadNumber") := by
  unfold M_go runMR
  rw [startB1]
  rcases h with rfl | rfl | rfl | rfl | rfl | rfl | rfl <;> simp [startD, FX_Stroll_go, st3, oIs, isD, kindD]
theorem M_go_bad (s n a : Nat) (hn : n ≤ 40) (p : Pose) {k : Int} (h : (a : Int) + k < 0 ∨ 4 ^ n ≤ (a : Int) + k) : M_go s (st3 n p a) [.int k] = some (.error "BadNumber") := by
  have hc := cells_of_ok n (by omega)
  unfold M_go runMR
  rw [startB1]
  by_cases h0 : (0 : Int) ≤ a + k
  · have h1 : ¬ (a : Int) + k < 4 ^ n := by omega
    have h2 : (4 : Int) ^ n ≤ a + k := by omega
    simp [startD, FX_Stroll_go, st3, oIs, isD, kindD, oLe, oLt, hc, h0, h1, h2]
  · have h1 : (a : Int) + k < 0 := by omega
    simp [startD, FX_Stroll_go, st3, oIs, isD, kindD, oLe, oLt, hc, h0, h1]
theorem M_ways_bad (s n a : Nat) (p : Pose) {d : Dt} (h : NoN 1001 d) : M_ways s (st3 n p a) [d] = some (.error "BadNumber") := by
  have := h 0 1000 (by omega) (by omega)
  unfold M_ways runMR
  rw [startB1]
  simp [startD, FX_Stroll_ways, st3, d_MOST_WAYS, this]
theorem M_to_bad (s n a : Nat) (hn : n ≤ 40) (p : Pose) {d : Dt} (h : G_is_cell [.int n, d] = some (.bool false)) : M_to s (st3 n p a) [d] = some (.error "BadCell") := by
  have h1 := xc_bad h
  have h2 := xs_good hn
  have h3 := xp_good p
  unfold M_to runMR
  rw [startB1]
  simp [startD, FX_Stroll_to, st3, X_number_of_ap, FX_number_of, h1, h2, h3]
end BL

set_option linter.all false
set_option maxRecDepth 100000
set_option maxHeartbeats 2000000
namespace BL
open PySem
/-! ### loops by an invariant -/
theorem for_mem {g : TGD} {b : FS} {P : Env → Prop} : ∀ {xs : List Dt} {r : Env}, (∀ x ∈ xs, ∀ r, P r → ∃ r1 r2, g x r = some r1 ∧ b r1 = some (.nx r2) ∧ P r2) → P r → ∃ r', forGo g b xs r = some (.nx r') ∧ P r'
  | [], r, _, h => ⟨r, rfl, h⟩
  | x :: xs, r, hx, h => by
    obtain ⟨r1, r2, h1, h2, h3⟩ := hx x List.mem_cons_self r h
    obtain ⟨r', h4, h5⟩ := for_mem (xs := xs) (fun y hy => hx y (List.mem_cons_of_mem _ hy)) h3
    exact ⟨r', by rw [forGo_nx h1 h2, h4], h5⟩
theorem enum_mem : ∀ (xs : List Int) (k : Nat) (x : Dt), x ∈ enumD k (xs.map PyData.int) → ∃ (i : Nat) (c : Int), i < k + xs.length ∧ x = .tuple [.int i, .int c]
  | [], k, x, h => by cases h
  | y :: xs, k, x, h => by
    rcases List.mem_cons.mp h with e | h
    · exact ⟨k, y, by simp, e⟩
    · obtain ⟨i, c, hi, e⟩ := enum_mem xs (k + 1) x h
      exact ⟨i, c, by simp; omega, e⟩
/-- for i, j in enumerate([c] + script[:m]): body, by an invariant -/
theorem law_inv (i j : Nat) (c : Int) (m : Nat) (hm : m ≤ 60) (body : FS) (ns : List Int) (P : Env → Prop) (hb : ∀ (k : Nat) (c : Int) r, k < 70 → P r → ∃ r2, body ((r.set i (some (.d (.int k)))).set j (some (.d (.int c)))) = some (.nx r2) ∧ P r2)
    (t : List (Option Sl)) (ht : P (some (.scr (ns.map PyData.int)) :: t)) : ∃ r', P r' ∧ sFor (iEnum (eOp oAdd (eLst (aCons (eC (.int c)) aNil)) (eScr none (some (m : Int)) 0))) (gTp [i, j]) body (some (.scr (ns.map PyData.int)) :: t) = some (.nx r') := by
  obtain ⟨r', h1, h2⟩ := for_mem (g := gTp [i, j]) (b := body) (P := P) (xs := enumD 0 ((c :: ns.take m).map PyData.int)) (r := some (.scr (ns.map PyData.int)) :: t) (fun x hx r hr => by
    obtain ⟨k, c', hk, rfl⟩ := enum_mem _ _ _ hx
    obtain ⟨r2, h1, h2⟩ := hb k c' r (by simp at hk; omega) hr
    exact ⟨_, r2, rfl, h1, h2⟩) ht
  refine ⟨r', h2, ?_⟩
  unfold sFor
  rw [enum_script c m (by omega) ns t]
  exact h1
theorem lc_map {g : TGD} {e : FE} {r : Env} {F : Dt → Dt} : ∀ {xs : List Dt}, (∀ x ∈ xs, ∃ r1, g x r = some r1 ∧ e r1 = some (F x)) → lcGo g eYes e r xs = some (xs.map F)
  | [], _ => rfl
  | x :: xs, h => by
    obtain ⟨r1, h1, h2⟩ := h x List.mem_cons_self
    have ih := lc_map (xs := xs) fun y hy => h y (List.mem_cons_of_mem _ hy)
    unfold lcGo
    rw [h1, Option.bind_some]
    simp [h2, ih]
/-- of range(n) -/
theorem lc_rng {i : Nat} {e : FE} {r : Env} {n : Nat} {F : Nat → Dt} (h : ∀ k, k < n → e (r.set i (some (.d (.int (k : Int))))) = some (F k)) : lcGo (gNm i) eYes e r (rngD 0 n) = some ((List.range n).map F) := by
  have key : ∀ ks : List Nat, (∀ k ∈ ks, k < n) → lcGo (gNm i) eYes e r (ks.map fun (k : Nat) => PyData.int (0 + k)) = some (ks.map F) := by
    intro ks
    induction ks with
    | nil => intro _; rfl
    | cons k ks ih =>
      intro hk
      have h1 := h k (hk k List.mem_cons_self)
      have h2 := ih fun j hj => hk j (List.mem_cons_of_mem _ hj)
      rw [List.map_cons]
      unfold lcGo
      rw [h2]
      simp only [Int.zero_add, gNm, Option.bind_some, eYes, toB_bool, if_true, h1, List.map_cons]
  exact key (List.range n) fun k hk => List.mem_range.mp hk
theorem perm_of_nodup {α : Type} [DecidableEq α] : ∀ {l m : List α}, l.Nodup → m.Nodup → (∀ a, a ∈ l ↔ a ∈ m) → l.Perm m
  | [], m, _, _, h => by
    cases m with
    | nil => exact List.Perm.refl _
    | cons b m => exact absurd ((h b).mpr List.mem_cons_self) (by simp)
  | a :: l, m, hl, hm, h => by
    have ha : a ∈ m := (h a).mp List.mem_cons_self
    have hn := List.nodup_cons.mp hl
    refine List.Perm.trans (List.Perm.cons a (perm_of_nodup hn.2 (hm.erase a) fun b => ?_)) (List.perm_cons_erase ha).symm
    rw [hm.mem_erase_iff]
    constructor
    · intro hb
      exact ⟨fun e => hn.1 (e ▸ hb), (h b).mp (List.mem_cons_of_mem _ hb)⟩
    · intro ⟨hne, hb⟩
      rcases List.mem_cons.mp ((h b).mpr hb) with e | hb
      · exact absurd e hne
      · exact hb
theorem nodup_map_range {α : Type} {n : Nat} {F : Nat → α} (h : ∀ j k, j < n → k < n → F j = F k → j = k) : ((List.range n).map F).Nodup := by
  unfold List.Nodup
  rw [List.pairwise_map]
  refine List.Pairwise.imp_of_mem (fun {a b} ha hb hab => ?_) (List.pairwise_lt_range)
  intro e
  have := h a b (List.mem_range.mp ha) (List.mem_range.mp hb) e
  omega
/-- all cells of a square, in the order of columns -/
def grid (s : Nat) : List (Int × Int) := (List.range (2 ^ s * 2 ^ s)).map fun (k : Nat) => ((k : Int) / 2 ^ s, (k : Int) % 2 ^ s)
theorem grid_mem (s : Nat) (c : Int × Int) : c ∈ grid s ↔ InSq s c := by
  obtain ⟨x, y⟩ := c
  have hp := two_pos s
  unfold grid InSq
  simp only [List.mem_map, List.mem_range, Prod.mk.injEq]
  constructor
  · rintro ⟨k, hk, rfl, rfl⟩
    refine ⟨Int.ediv_nonneg (by omega) (by omega), Int.ediv_lt_of_lt_mul hp ?_, Int.emod_nonneg _ (by omega), Int.emod_lt_of_pos _ hp⟩
    rw [← cast2, ← Int.natCast_mul]
    omega
  · rintro ⟨h1, h2, h3, h4⟩
    refine ⟨(x * 2 ^ s + y).toNat, ?_, ?_, ?_⟩
    · have e : 0 ≤ x * 2 ^ s := Int.mul_nonneg h1 (by omega)
      have e2 : (x + 1) * 2 ^ s ≤ 2 ^ s * 2 ^ s := Int.mul_le_mul_of_nonneg_right (by omega) (by omega)
      rw [Int.add_mul, Int.one_mul] at e2
      have e3 : ((2 ^ s * 2 ^ s : Nat) : Int) = 2 ^ s * 2 ^ s := by rw [Int.natCast_mul, cast2]
      rw [← e3] at e2
      generalize x * 2 ^ s = z at *
      generalize (2 ^ s * 2 ^ s : Nat) = W at *
      omega
    · rw [Int.toNat_of_nonneg (by have := Int.mul_nonneg h1 (Int.le_of_lt hp); omega), div_top _ _ _ h3 h4]
    · rw [Int.toNat_of_nonneg (by have := Int.mul_nonneg h1 (Int.le_of_lt hp); omega), mod_top _ _ _ h3 h4]
theorem grid_nodup (s : Nat) : (grid s).Nodup := by
  have hp := two_pos s
  refine nodup_map_range fun j k hj hk e => ?_
  simp only [Prod.mk.injEq] at e
  have e1 := Int.mul_ediv_add_emod (j : Int) (2 ^ s)
  have e2 := Int.mul_ediv_add_emod (k : Int) (2 ^ s)
  rw [e.1, e.2] at e1
  omega
theorem grid_sorted (s : Nat) : (grid s).Pairwise (fun a b => leP a b = true) := by
  have hp := two_pos s
  unfold grid
  rw [List.pairwise_map]
  refine List.Pairwise.imp (fun {a b} h => ?_) List.pairwise_lt_range
  rw [leP_iff]
  simp only
  have e1 := Int.mul_ediv_add_emod (a : Int) (2 ^ s)
  have e2 := Int.mul_ediv_add_emod (b : Int) (2 ^ s)
  have l1 : (a : Int) / 2 ^ s ≤ (b : Int) / 2 ^ s := Int.ediv_le_ediv hp (by omega)
  rcases Int.lt_or_eq_of_le l1 with h1 | h1
  · exact .inl h1
  · refine .inr ⟨h1, ?_⟩
    rw [h1] at e1
    omega
def cellsL (s : Nat) (p : Pose) : List (Int × Int) := (List.range (4 ^ s)).map (cell s p)
theorem cells_sorted (s : Nat) (p : Pose) : (cellsL s p).mergeSort leP = grid s := by
  refine perm_sorted_eq leP_anti ((List.mergeSort_perm _ _).trans (perm_of_nodup ?_ (grid_nodup s) fun c => ?_)) (leP_sorted _) (grid_sorted s)
  · exact nodup_map_range fun j k hj hk e => cell_inj s p j k hj hk e
  · rw [grid_mem]
    unfold cellsL
    simp only [List.mem_map, List.mem_range]
    constructor
    · rintro ⟨k, _, rfl⟩
      exact cell_in_sq s p k
    · intro h
      exact ⟨num s p c, num_lt s p c, cell_num s p c h⟩
theorem pairsOf_map : ∀ ps : List (Int × Int), pairsOf (ps.map ptD) = some ps
  | [] => rfl
  | p :: ps => by
    show (pairsOf (ps.map ptD)).map (p :: ·) = _
    rw [pairsOf_map ps]
    rfl
theorem oSorted_pts {ps : List (Int × Int)} (h : ps ≠ []) : oSorted (.list (ps.map ptD)) = some (.list ((ps.mergeSort leP).map ptD)) := by
  cases ps with
  | nil => exact absurd rfl h
  | cons p ps =>
    show (match intsOf ((p :: ps).map ptD) with
      | some ns => some (PyData.list ((ns.mergeSort fun a b => decide (a ≤ b)).map PyData.int))
      | none => (pairsOf ((p :: ps).map ptD)).map fun (ps : List (Int × Int)) => PyData.list ((ps.mergeSort leP).map fun (p : Int × Int) => .tuple [.int p.1, .int p.2])) = _
    have e : intsOf ((p :: ps).map ptD) = none := rfl
    rw [e, pairsOf_map]
    rfl
theorem near_ok (c d : Int × Int) (h : near c d) : G_law_are_near [ptD c, ptD d] = some (.bool true) := by
  unfold near at h
  rw [G_law_are_near_ap]
  have e : (if c.1 - d.1 < 0 then -(c.1 - d.1) else c.1 - d.1) + (if c.2 - d.2 < 0 then -(c.2 - d.2) else c.2 - d.2) = 1 := by split <;> split <;> omega
  simp [F_law_are_near, e]
theorem zip_next : ∀ (xs : List Dt) (x : Dt), x ∈ zipD xs (xs.drop 1) → ∃ i a b, xs[i]? = some a ∧ xs[i + 1]? = some b ∧ x = .tuple [a, b]
  | [], x, h => by cases h
  | [y], x, h => by cases h
  | y :: z :: xs, x, h => by
    have h' : x ∈ PyData.tuple [y, z] :: zipD (z :: xs) ((z :: xs).drop 1) := h
    rcases List.mem_cons.mp h' with e | h'
    · exact ⟨0, y, z, rfl, rfl, e⟩
    · obtain ⟨i, a, b, h1, h2, e⟩ := zip_next (z :: xs) x h'
      exact ⟨i + 1, a, b, h1, h2, e⟩
theorem cut_one (xs : List Dt) : cutD xs (some 1) none = xs.drop 1 := by
  have h : ¬ ((1 : Int) < 0) := by decide
  cases xs with
  | nil => rfl
  | cons x xs =>
    simp only [cutD, sIx, h, if_false, List.length_cons]
    rw [show min (Int.toNat 1) (xs.length + 1) = 1 by simp]
    rw [List.drop_one, List.tail_cons, List.take_of_length_le (by simp)]
theorem canAll_of : ∀ {ds : List Dt}, (∀ d ∈ ds, d.canLay0 = true) → PyData.canLayAll0 ds = true
  | [], _ => rfl
  | d :: ds, h => by
    unfold PyData.canLayAll0
    rw [h d List.mem_cons_self, canAll_of fun x hx => h x (List.mem_cons_of_mem _ hx)]
    rfl
theorem depthAll_of {n : Nat} : ∀ {ds : List Dt}, (∀ d ∈ ds, d.depth ≤ n) → PyData.depthAll ds ≤ n
  | [], _ => Nat.zero_le _
  | d :: ds, h => by
    unfold PyData.depthAll
    exact Nat.max_le.mpr ⟨h d List.mem_cons_self, depthAll_of fun x hx => h x (List.mem_cons_of_mem _ hx)⟩
theorem shaped_list {ds : List Dt} (h : ∀ d ∈ ds, d.canLay0 = true ∧ d.depth ≤ 50) : SeqAt.shaped (.list ds) = true := by
  unfold SeqAt.shaped PyData.canLay0 PyData.depth
  have h1 := canAll_of fun d hd => (h d hd).1
  have h2 := depthAll_of (n := 50) fun d hd => (h d hd).2
  rw [h1, Bool.true_and]
  exact decide_eq_true (by omega)
theorem eqvAll_refl : ∀ {ds : List Dt}, (∀ d ∈ ds, PyData.eqv d d = true) → PyData.eqvAll ds ds = true
  | [], _ => rfl
  | d :: ds, h => by
    unfold PyData.eqvAll
    rw [h d List.mem_cons_self, eqvAll_refl fun x hx => h x (List.mem_cons_of_mem _ hx)]
    rfl
theorem pt_lay (c : Int × Int) : (ptD c).canLay0 = true ∧ (ptD c).depth ≤ 50 := by
  simp [ptD, PyData.canLay0, PyData.canLayAll0, PyData.depth, PyData.depthAll]
theorem shaped_pts (ps : List (Int × Int)) : SeqAt.shaped (.list (ps.map ptD)) = true := shaped_list fun d hd => by
  obtain ⟨c, _, rfl⟩ := List.mem_map.mp hd
  exact pt_lay c
theorem eqv_pts (ps : List (Int × Int)) : PyData.eqv (.list (ps.map ptD)) (.list (ps.map ptD)) = true := by
  unfold PyData.eqv
  refine eqvAll_refl fun d hd => ?_
  obtain ⟨c, _, rfl⟩ := List.mem_map.mp hd
  rw [eqv_pt]
  exact decide_eq_true rfl
theorem small_ok (s : Nat) (hs : s ≤ 9) (p : Pose) : G_law_small_good [.int s, p.d] = some (.bool true) := by
  have h1 := many_ok s (by omega)
  have h2 := side_ok s (by omega)
  have h4 : (4 : Nat) ^ s ≤ 4 ^ 9 := Nat.pow_le_pow_right (by decide) hs
  have h4' : (4 : Nat) ^ 9 = 262144 := by decide
  have e4 : (2 : Nat) ^ s * 2 ^ s = 4 ^ s := by rw [← Nat.mul_pow]
  have i4 : ((2 : Int) ^ s * 2 ^ s) = ((4 ^ s : Nat) : Int) := by rw [← cast2, ← Int.natCast_mul, e4]
  have hp := two_pos s
  have hl := two_le s (by omega)
  have hm : okMul (2 ^ s) (2 ^ s) = true := okMul_of (by omega) (by omega) (by omega) (by omega)
  have hd : okDiv (2 ^ s) = true := by
    unfold okDiv
    simp only [Bool.and_eq_true, decide_eq_true_eq]
    omega
  have hr1 := fun r hr => iRng1_of (a := eCall G_law_many (aCons (eVar 0) aNil)) (r := r) (n := 4 ^ s) hr (by omega)
  have hr2 := fun r hr => iRng1_of (a := eOp oMul (eVar 5) (eVar 5)) (r := r) (n := 4 ^ s) hr (by omega)
  have hlen : (rngD 0 (4 ^ s)).length = 4 ^ s := rngD_len 0 (4 ^ s)
  have hz : sizeOk (4 ^ s) = true := by unfold sizeOk; exact decide_eq_true (by omega)
  have c1 : ∀ k : Nat, k < 4 ^ s → eCall G_cell_at (aCons (eVar 0) (aCons (eVar 1) (aCons (eVar 6) aNil))) [some (.d (.int s)), some (.d p.d), none, none, none, none, some (.d (.int k)), none] = some (ptD (cell s p k)) := fun k hk => by
    simp [cell_at_ok s (by omega) p k hk]
  have lc1 : lcGo (gNm 6) eYes (eCall G_cell_at (aCons (eVar 0) (aCons (eVar 1) (aCons (eVar 6) aNil)))) [some (.d (.int s)), some (.d p.d), none, none, none, none, none, none] (rngD 0 (4 ^ s)) = some ((cellsL s p).map ptD) := by
    rw [lc_rng (F := fun k => ptD (cell s p k)) c1]
    unfold cellsL
    rw [List.map_map]
    rfl
  have hf : ∃ r', forGo (gTp [3, 4]) B_law_small_good_1 (zipD ((cellsL s p).map ptD) (((cellsL s p).map ptD).drop 1)) [some (.d (.int s)), some (.d p.d), some (.d (.list ((cellsL s p).map ptD))), none, none, none, none, none] = some (.nx r') ∧ (∃ a b, r' = [some (.d (.int s)), some (.d p.d), some (.d (.list ((cellsL s p).map ptD))), a, b, none, none, none]) := by
    refine for_mem (fun x hx r hr => ?_) ⟨none, none, rfl⟩
    obtain ⟨a, b, rfl⟩ := hr
    obtain ⟨i, c, d, hc, hd', rfl⟩ := zip_next _ x hx
    unfold cellsL at hc hd'
    rw [List.map_map, List.getElem?_map] at hc hd'
    have hi : i + 1 < 4 ^ s := by
      cases e : (List.range (4 ^ s))[i + 1]? with
      | none => rw [e] at hd'; cases hd'
      | some v =>
        have := (List.getElem?_eq_some_iff.mp e).1
        rwa [List.length_range] at this
    rw [List.getElem?_range (by omega)] at hc
    rw [List.getElem?_range hi] at hd'
    cases hc
    cases hd'
    have hn := near_ok _ _ (cell_near s p i hi)
    refine ⟨_, _, rfl, ?_, some (.d (ptD (cell s p i))), some (.d (ptD (cell s p (i + 1)))), rfl⟩
    simp [B_law_small_good_1, hn]
  obtain ⟨r', ef, a, b, rfl⟩ := hf
  have c2 : ∀ k : Nat, k < 4 ^ s → eTup (aCons (eOp oDiv (eVar 7) (eVar 5)) (aCons (eOp oMod (eVar 7) (eVar 5)) aNil)) [some (.d (.int s)), some (.d p.d), some (.d (.list ((cellsL s p).map ptD))), a, b, some (.d (.int (2 ^ s))), none, some (.d (.int k))] = some (ptD ((k : Int) / 2 ^ s, (k : Int) % 2 ^ s)) := fun k hk => by
    have h2 : sizeOk 2 = true := by decide
    simp [hd, hp, h2, ptD]
  have lc2 : lcGo (gNm 7) eYes (eTup (aCons (eOp oDiv (eVar 7) (eVar 5)) (aCons (eOp oMod (eVar 7) (eVar 5)) aNil))) [some (.d (.int s)), some (.d p.d), some (.d (.list ((cellsL s p).map ptD))), a, b, some (.d (.int (2 ^ s))), none, none] (rngD 0 (4 ^ s)) = some ((grid s).map ptD) := by
    rw [lc_rng (F := fun (k : Nat) => ptD ((k : Int) / 2 ^ s, (k : Int) % 2 ^ s)) c2]
    unfold grid
    rw [List.map_map, e4]
    rfl
  have hne : cellsL s p ≠ [] := by
    intro e
    have : (cellsL s p).length = 4 ^ s := by unfold cellsL; simp
    rw [e] at this
    have : 0 < 4 ^ s := Nat.pow_pos (by decide)
    simp at *
    omega
  have hso := oSorted_pts hne
  rw [cells_sorted] at hso
  have sp := shaped_pts (grid s)
  have ev := eqv_pts (grid s)
  have e0 : [some (Sl.d (.int (s : Int))), some (.d p.d), none, none, none, none, none, none] = wipeD [some (Sl.d (.int (s : Int))), some (.d p.d), none, none, none, none, none, none] [6] := rfl
  have e1 : [some (Sl.d (.int (s : Int))), some (.d p.d), some (.d (.list ((cellsL s p).map ptD))), a, b, some (.d (.int (2 ^ s))), none, none] = wipeD [some (Sl.d (.int (s : Int))), some (.d p.d), some (.d (.list ((cellsL s p).map ptD))), a, b, some (.d (.int (2 ^ s))), none, none] [7] := rfl
  rw [e0] at lc1
  rw [e1] at lc2
  have hi1 : iRng1 (eCall G_law_many (aCons (eVar 0) aNil)) [some (.d (.int s)), some (.d p.d), none, none, none, none, none, none] = some (rngD 0 (4 ^ s)) := hr1 _ (by simp [h1, cast4])
  have hi2 : iRng1 (eOp oMul (eVar 5) (eVar 5)) [some (.d (.int s)), some (.d p.d), some (.d (.list ((cellsL s p).map ptD))), a, b, some (.d (.int (2 ^ s))), none, none] = some (rngD 0 (4 ^ s)) := hr2 _ (by simp [hm, i4])
  have hzip : iZip (eVar 2) (eUn (oSlice (some 1) none) (eVar 2)) [some (.d (.int s)), some (.d p.d), some (.d (.list ((cellsL s p).map ptD))), none, none, none, none, none] = some (zipD ((cellsL s p).map ptD) (((cellsL s p).map ptD).drop 1)) := by
    simp only [iZip, eVar, eUn, List.getElem?_cons_succ, List.getElem?_cons_zero, Option.bind_some, oSl_list, cut_one]
  rw [G_law_small_good_ap]
  generalize (cellsL s p).map ptD = L at *
  simp [-gTp, -List.drop_one, F_law_small_good, hi1, hlen, hz, lc1, hzip, ef, h2, hi2, lc2, hso, oEq, sp, ev]
end BL

set_option linter.all false
set_option maxRecDepth 100000
set_option maxHeartbeats 4000000
namespace BL
open PySem
theorem wayS_lay (c d : Int × Int) : (PyData.str (wayS c d)).canLay0 = true ∧ (PyData.str (wayS c d)).depth ≤ 50 ∧ PyData.eqv (.str (wayS c d)) (.str (wayS c d)) = true := by
  unfold wayS
  split
  · decide +kernel
  · split
    · decide +kernel
    · split
      · decide +kernel
      · decide +kernel
theorem wayL_mem (n : Nat) (p : Pose) : ∀ (c a : Nat) (d : Dt), d ∈ wayL n p a c → ∃ x y, d = .str (wayS x y)
  | 0, a, d, h => by cases h
  | c + 1, a, d, h => by
    unfold wayL at h
    rcases List.mem_cons.mp h with rfl | h
    · exact ⟨_, _, rfl⟩
    · exact wayL_mem n p c (a + 1) d h
theorem wayL_len (n : Nat) (p : Pose) : ∀ (c a : Nat), (wayL n p a c).length = c
  | 0, a => rfl
  | c + 1, a => by unfold wayL; rw [List.length_cons, wayL_len n p c]
theorem shaped_ways (n : Nat) (p : Pose) (a c : Nat) : SeqAt.shaped (.list (wayL n p a c)) = true := shaped_list fun d hd => by
  obtain ⟨x, y, rfl⟩ := wayL_mem n p c a d hd
  exact ⟨(wayS_lay x y).1, (wayS_lay x y).2.1⟩
theorem eqv_ways (n : Nat) (p : Pose) (a c : Nat) : PyData.eqv (.list (wayL n p a c)) (.list (wayL n p a c)) = true := by
  unfold PyData.eqv
  refine eqvAll_refl fun d hd => ?_
  obtain ⟨x, y, rfl⟩ := wayL_mem n p c a d hd
  exact (wayS_lay x y).2.2
theorem ne_ways (n : Nat) (p : Pose) (a c : Nat) : oNe (.list (wayL n p a c)) (.list (wayL n p a c)) = some (.bool false) := by
  unfold oNe
  rw [shaped_ways, eqv_ways]
  rfl
theorem eq_ways (n : Nat) (p : Pose) (a c : Nat) : oEq (.list (wayL n p a c)) (.list (wayL n p a c)) = some (.bool true) := by
  unfold oEq
  rw [shaped_ways, eqv_ways]
  rfl
theorem right_turn (s n a : Nat) (hn : n ≤ 40) (p : Pose) (ha : a < 4 ^ n) (m : Int) (hm : 0 ≤ m) (t : Int) (ht : 0 ≤ t ∧ t ≤ 3) (x4 x5 x6 : Option Sl) :
    ∃ y4 y5 y6, B_law_right_1 [some (.obj false true s (st3 n p a)), some (.d (.list (st3 n p a))), some (.d (.int m)), some (.d (.int t)), x4, x5, x6] =
      some (.nx [some (.obj false true s (st3 n p a)), some (.d (.list (st3 n p a))), some (.d (.int m)), some (.d (.int t)), y4, y5, y6]) := by
  obtain ⟨k, hk, ek⟩ : ∃ k : Nat, k ≤ 1000 ∧ m / 16 % 5 = k := ⟨(m / 16 % 5).toNat, by omega, by omega⟩
  have d4 : okDiv 4 = true := by decide
  have d16 : okDiv 16 = true := by decide
  have hmu : okMul t (1 + m / 4 % 2 * 2) = true := okMul_of (by omega) (by omega) (by omega) (by omega)
  have hmu2 : okMul (m / 4 % 2) 2 = true := okMul_of (by omega) (by omega) (by omega) (by omega)
  have h1 := M_number_ok s n a p
  have h2 := M_here_ok s n a hn p ha
  have h3 := walked_ok n hn p a
  have h4 := MO_ways_ok s n a k hn p ha hk
  have h5 := law_ways_ok n hn p a k ha hk
  have h6 := ne_ways n p a (cn n a k)
  have h7 := whole_int a
  have h8 : sizeOk (wayL n p a (cn n a k)).length = true := sz_of (by rw [wayL_len]; have := cn_le n a k; omega)
  have h9 : PyData.eqv (.int 1) (.int 0) = false := by simp
  have hq : (m + t * (1 + m / 4 % 2 * 2)) % 4 = 0 ∨ (m + t * (1 + m / 4 % 2 * 2)) % 4 = 1 ∨ (m + t * (1 + m / 4 % 2 * 2)) % 4 = 2 ∨ (m + t * (1 + m / 4 % 2 * 2)) % 4 = 3 := by omega
  have o0 : oNe (.int a) (.int a) = some (.bool false) := by simp [oNe]
  have o1 : oNe (ptD (cell n p a)) (ptD (cell n p a)) = some (.bool false) := by simp [oNe]
  have i0 : oIx (.list (st3 n p a)) (.int 0) = some (.int n) := rfl
  have i1 : oIx (.list (st3 n p a)) (.int 1) = some p.d := rfl
  have i2 : oIx (.list (st3 n p a)) (.int 2) = some (.int a) := rfl
  rcases hq with q | q | q | q
  · exact ⟨some (.d (.int 0)), x5, x6, by simp [B_law_right_1, d4, d16, hmu, hmu2, q, ek, h1, h2, h3, h4, h5, h6, h7, h8, o0, o1, i0, i1, i2, okD, freeze, frz1, oIs, isD, kindD, oEq, oGt, flatD]⟩
  · exact ⟨some (.d (.int 1)), x5, x6, by simp [B_law_right_1, d4, d16, hmu, hmu2, q, ek, h1, h2, h3, h4, h5, h6, h7, h8, o0, o1, i0, i1, i2, okD, freeze, frz1, oIs, isD, kindD, oEq, oGt, flatD]⟩
  · exact ⟨some (.d (.int 2)), some (.d (.int k)), some (.own (wayL n p a (cn n a k) ++ [.str "up"])), by simp [B_law_right_1, d4, d16, hmu, hmu2, q, ek, h1, h2, h3, h4, h5, h6, h7, h8, o0, o1, i0, i1, i2, okD, freeze, frz1, oIs, isD, kindD, oEq, oGt, flatD]⟩
  · exact ⟨some (.d (.int 3)), some (.d (.int k)), some (.own (wayL n p a (cn n a k) ++ [.str "up"])), by simp [B_law_right_1, d4, d16, hmu, hmu2, q, ek, h1, h2, h3, h4, h5, h6, h7, h8, o0, o1, i0, i1, i2, okD, freeze, frz1, oIs, isD, kindD, oEq, oGt, flatD]⟩
theorem law_right_ok (s n a : Nat) (hn : n ≤ 40) (p : Pose) (ha : a < 4 ^ n) (m : Int) (hm : 0 ≤ m) : M_law_right s (st3 n p a) [.list (st3 n p a), .int m] = some (.ok (.bool true)) := by
  have T := right_turn s n a hn p ha m hm
  obtain ⟨a4, a5, a6, e0⟩ := T 0 (by omega) none none none
  obtain ⟨b4, b5, b6, e1⟩ := T 1 (by omega) a4 a5 a6
  obtain ⟨c4, c5, c6, e2⟩ := T 2 (by omega) b4 b5 b6
  obtain ⟨d4, d5, d6, e3⟩ := T 3 (by omega) c4 c5 c6
  have hi : ∀ r, iRng1 (eC (.int 4)) r = some [.int 0, .int 1, .int 2, .int 3] := fun _ => rfl
  unfold M_law_right runMR
  rw [startB1]
  unfold F_law_right sSeq sFor
  rw [hi]
  have e : forGo (gNm 3) B_law_right_1 [.int 0, .int 1, .int 2, .int 3] [some (.obj false true s (st3 n p a)), some (.d (.list (st3 n p a))), some (.d (.int m)), none, none, none, none] = some (.nx [some (.obj false true s (st3 n p a)), some (.d (.list (st3 n p a))), some (.d (.int m)), some (.d (.int 3)), d4, d5, d6]) := by
    rw [forGo_nx rfl e0, forGo_nx rfl e1, forGo_nx rfl e2, forGo_nx rfl e3]
    rfl
  simp [startD, e]
end BL

set_option linter.all false
set_option maxRecDepth 100000
set_option maxHeartbeats 4000000
namespace BL
open PySem
/-! ### strolls: refusals and moves -/
theorem odd_at (m : Int) : ∃ o, Odd o ∧ atD [.bool true, .none, .str "1", .list [.int 1], .tuple [.int 1], .dict [], .bool false] (m % 7) = some o := by
  have h : m % 7 = 0 ∨ m % 7 = 1 ∨ m % 7 = 2 ∨ m % 7 = 3 ∨ m % 7 = 4 ∨ m % 7 = 5 ∨ m % 7 = 6 := by omega
  rcases h with h | h | h | h | h | h | h <;> rw [h]
  · exact ⟨_, .inl rfl, rfl⟩
  · exact ⟨_, .inr (.inl rfl), rfl⟩
  · exact ⟨_, .inr (.inr (.inl rfl)), rfl⟩
  · exact ⟨_, .inr (.inr (.inr (.inl rfl))), rfl⟩
  · exact ⟨_, .inr (.inr (.inr (.inr (.inl rfl)))), rfl⟩
  · exact ⟨_, .inr (.inr (.inr (.inr (.inr (.inl rfl))))), rfl⟩
  · exact ⟨_, .inr (.inr (.inr (.inr (.inr (.inr rfl))))), rfl⟩
theorem refused_ok (s n a : Nat) (hn : n ≤ 40) (p : Pose) (ha : a < 4 ^ n) (m : Int) (hm : 0 ≤ m) : MT_law_refused s (st3 n p a) [.list (st3 n p a), .int m] = some (.bool true) := by
  obtain ⟨o, ho, eo⟩ := odd_at (m / 4)
  have d4 : okDiv 4 = true := by decide
  have d28 : okDiv 28 = true := by decide
  have s1 : sizeOk 1 = true := by decide
  have s2 : sizeOk 2 = true := by decide
  have s3 : sizeOk 3 = true := by decide
  have s5 : sizeOk 5 = true := by decide
  have s7 : sizeOk 7 = true := by decide
  have s10 : sizeOk 10 = true := by decide
  have p20 : okShl 10 20 = true := by decide
  have hs := side_ok n (by omega)
  have hmn := many_ok n (by omega)
  have c4 := cast4 n
  have h2p := two_pos n
  have i0 : oIx (.list (st3 n p a)) (.int 0) = some (.int n) := rfl
  have i2 : oIx (.list (st3 n p a)) (.int 2) = some (.int a) := rfl
  have hgo : ∀ d, M_go s (st3 n p a) [d] = some (.error "BadNumber") → gRow M_go (.int s :: (st3 n p a ++ [d])) = some (.error "BadNumber") := fun d h => h
  have hwy : ∀ d, M_ways s (st3 n p a) [d] = some (.error "BadNumber") → gRow M_ways (.int s :: (st3 n p a ++ [d])) = some (.error "BadNumber") := fun d h => h
  have hto : ∀ d, M_to s (st3 n p a) [d] = some (.error "BadCell") → gRow M_to (.int s :: (st3 n p a ++ [d])) = some (.error "BadCell") := fun d h => h
  have l3 : (st3 n p a).length = 3 := rfl
  unfold MT_law_refused runMT
  rw [startB1]
  have hq : m % 4 = 0 ∨ m % 4 = 1 ∨ m % 4 = 2 ∨ m % 4 = 3 := by omega
  have h5 : m / 28 % 5 = 0 ∨ m / 28 % 5 = 1 ∨ m / 28 % 5 = 2 ∨ m / 28 % 5 = 3 ∨ m / 28 % 5 = 4 := by omega
  have h10 : m / 28 % 10 = 0 ∨ m / 28 % 10 = 1 ∨ m / 28 % 10 = 2 ∨ m / 28 % 10 = 3 ∨ m / 28 % 10 = 4 ∨ m / 28 % 10 = 5 ∨ m / 28 % 10 = 6 ∨ m / 28 % 10 = 7 ∨ m / 28 % 10 = 8 ∨ m / 28 % 10 = 9 := by omega
  have key : ∀ q : Int, m % 4 = q → q = 2 ∨ q = 3 → ((F_law_refused (some (.obj false true s (st3 n p a)) :: startD (8 - 1) [.list (st3 n p a), .int m])).bind outL) = some (.bool true) := by
    intro q e hq
    obtain ⟨d, ed, nd⟩ : ∃ d, atD [o, .tuple [o, .int 0], .tuple [.int 0, o], .tuple [.int (2 ^ n), .int 0], .tuple [.int 0, .int (2 ^ n)], .tuple [.int (-1), .int 0], .list [.int 0, .int 0], .tuple [.int 0], .tuple [.int 0, .int 0, .int 0], .tuple [.int 0, .int (2 ^ n + m)]] (m / 28 % 10) = some d ∧ G_is_cell [.int n, d] = some (.bool false) := by
      rcases h10 with h | h | h | h | h | h | h | h | h | h <;> rw [h]
      · exact ⟨_, rfl, ho.cell⟩
      · exact ⟨_, rfl, cell_no_x n hn ho.non⟩
      · exact ⟨_, rfl, cell_no_y n hn (by omega) (by omega) ho.non⟩
      · exact ⟨_, rfl, cell_no_x n hn (non_int (by omega))⟩
      · exact ⟨_, rfl, cell_no_y n hn (by omega) (by omega) (non_int (by omega))⟩
      · exact ⟨_, rfl, cell_no_x n hn (non_int (by omega))⟩
      · exact ⟨_, rfl, cell_no_tup rfl⟩
      · exact ⟨_, rfl, cell_no_len (by decide)⟩
      · exact ⟨_, rfl, cell_no_len (by decide)⟩
      · exact ⟨_, rfl, cell_no_y n hn (by omega) (by omega) (non_int (by omega))⟩
    have g := hto d (M_to_bad s n a hn p nd)
    have e0 : ¬ q = 0 := by omega
    have e1 : ¬ q = 1 := by omega
    simp [startD, F_law_refused, eKW_eq, -eKW, hmn, d4, d28, e, e0, e1, eo, s1, s2, s3, s7, s10, hs, i0, i2, ed, g, l3, kw_cell, eq_wl_cell]
  rcases hq with q | q | q | q
  · obtain ⟨d, ed, nd⟩ : ∃ d, atD [o, .int (4 ^ n - a), .int (4 ^ n - a + m), .int (-1 - a), .int (-1 - a - m)] (m / 28 % 5) = some d ∧ M_go s (st3 n p a) [d] = some (.error "BadNumber") := by
      rcases h5 with h | h | h | h | h <;> rw [h]
      · exact ⟨_, rfl, M_go_odd s n a p ho⟩
      · exact ⟨_, rfl, M_go_bad s n a hn p (by omega)⟩
      · exact ⟨_, rfl, M_go_bad s n a hn p (by omega)⟩
      · exact ⟨_, rfl, M_go_bad s n a hn p (by omega)⟩
      · exact ⟨_, rfl, M_go_bad s n a hn p (by omega)⟩
    have g := hgo d nd
    simp [startD, F_law_refused, eKW_eq, -eKW, hmn, d4, d28, q, eo, s1, s5, s7, i0, i2, ed, g, l3, kw_number, eq_wl_number]
  · obtain ⟨d, ed, nd⟩ : ∃ d, atD [o, .int (-1), .int 1001, .int (1001 + m), .int (10 ^ 20)] (m / 28 % 5) = some d ∧ NoN 1001 d := by
      rcases h5 with h | h | h | h | h <;> rw [h]
      · exact ⟨_, rfl, ho.non⟩
      · exact ⟨_, rfl, non_int (by omega)⟩
      · exact ⟨_, rfl, non_int (by omega)⟩
      · exact ⟨_, rfl, non_int (by omega)⟩
      · exact ⟨_, rfl, non_int (by omega)⟩
    have g := hwy d (M_ways_bad s n a p nd)
    have ed' : atD [o, .int (-1), .int 1001, .int (1001 + m), .int 100000000000000000000] (m / 28 % 5) = some d := ed
    simp [startD, F_law_refused, eKW_eq, -eKW, hmn, d4, d28, q, eo, s1, s5, s7, p20, i0, i2, ed', g, l3, kw_number, eq_wl_number]
  · exact key _ q (.inl rfl)
  · exact key _ q (.inr rfl)
theorem startB2 (n : Nat) (b : Bool) (a o : Nat) (xs ys ds : List Dt) : startB n b [(true, a, xs), (false, o, ys)] ds = some (.obj b true a xs) :: some (.obj b false o ys) :: startD (n - 2) ds := rfl
theorem moved_ok (n a : Nat) (hn : n ≤ 40) (p : Pose) (ha : a < 4 ^ n) (c m : Int) (hm : 0 ≤ m) : ∃ b, b < 4 ^ n ∧ ∀ s o, MB_law_moved s o (st3 n p a) (st3 n p a) [.int c, .int m] = some (.bool true, st3 n p b, st3 n p b) := by
  have d3 : okDiv 3 = true := by decide
  have d6 : okDiv 6 = true := by decide
  have d9 : okDiv 9 = true := by decide
  have s2 : sizeOk 2 = true := by decide
  have s4 : sizeOk 4 = true := by decide
  have hs := side_ok n (by omega)
  have hmn := many_ok n (by omega)
  have c4 := cast4 n
  have h2p := two_pos n
  by_cases hq : m % 3 < 2
  · obtain ⟨x, hx, ex⟩ := among_num c 90 n (by omega) (by omega)
    obtain ⟨g, hg, eg⟩ : ∃ g : Nat, g < 4 ^ n ∧ atD [.int x, .int 0, .int (4 ^ n - 1), .int (if (a : Int) + m / 6 % 30 < 4 ^ n - 1 then (a : Int) + m / 6 % 30 else 4 ^ n - 1)] (m / 3 % 4) = some (.int (g : Int)) := by
      have h : m / 3 % 4 = 0 ∨ m / 3 % 4 = 1 ∨ m / 3 % 4 = 2 ∨ m / 3 % 4 = 3 := by omega
      rcases h with h | h | h | h <;> rw [h]
      · exact ⟨x, hx, rfl⟩
      · exact ⟨0, by omega, rfl⟩
      · refine ⟨4 ^ n - 1, by omega, ?_⟩
        rw [show ((4 ^ n - 1 : Nat) : Int) = 4 ^ n - 1 by omega]
        rfl
      · split
        · refine ⟨((a : Int) + m / 6 % 30).toNat, by omega, ?_⟩
          rw [show ((((a : Int) + m / 6 % 30).toNat : Nat) : Int) = (a : Int) + m / 6 % 30 by omega]
          rfl
        · refine ⟨4 ^ n - 1, by omega, ?_⟩
          rw [show ((4 ^ n - 1 : Nat) : Int) = 4 ^ n - 1 by omega]
          rfl
    obtain ⟨b, hb, eb⟩ : ∃ b : Nat, b < 4 ^ n ∧ atD [.int g, .int (if m / 9 % 30 < (a : Int) then (a : Int) - m / 9 % 30 else 0)] (m % 3) = some (.int (b : Int)) := by
      have h : m % 3 = 0 ∨ m % 3 = 1 := by omega
      rcases h with h | h <;> rw [h]
      · exact ⟨g, hg, rfl⟩
      · split
        · refine ⟨((a : Int) - m / 9 % 30).toNat, by omega, ?_⟩
          rw [show ((((a : Int) - m / 9 % 30).toNat : Nat) : Int) = (a : Int) - m / 9 % 30 by omega]
          rfl
        · exact ⟨0, by omega, rfl⟩
    refine ⟨b, hb, fun s o => ?_⟩
    have hg2 := MW_go_ok s n a b hn p ((b : Int) - a) hb (by omega)
    have i0 : atD (st3 n p a) 0 = some (.int n) := rfl
    have i2 : atD (st3 n p a) 2 = some (.int a) := rfl
    have st : (st3 n p a).set 2 (.int b) = st3 n p b := rfl
    have l3 : (st3 n p a).length = 3 := rfl
    unfold MB_law_moved runBW
    rw [startB2]
    simp [startD, F_law_moved, hmn, d3, d6, d9, hq, ex, i0, i2, s2, s4, c2, oMin2, oMax2, eg, eb, hg2, st, l3, objAt]
  · obtain ⟨x, x0, x1, ex⟩ := among_ok c 91 (2 ^ n) (by omega) (by omega) (by omega)
    obtain ⟨y, y0, y1, ey⟩ := among_ok c 92 (2 ^ n) (by omega) (by omega) (by omega)
    have hc : InSq n (x, y) := ⟨x0, x1, y0, y1⟩
    refine ⟨num n p (x, y), num_lt n p (x, y), fun s o => ?_⟩
    have hg2 := MW_to_ok s n a hn p (x, y) hc
    have hnb := numbered_ok n hn p (x, y) hc
    unfold ptD at hg2 hnb
    simp only at hg2 hnb
    have i0 : atD (st3 n p a) 0 = some (.int n) := rfl
    have i1 : atD (st3 n p a) 1 = some p.d := rfl
    have i2 : atD (st3 n p a) 2 = some (.int a) := rfl
    have st : ∀ b : Int, (st3 n p a).set 2 (.int b) = [.int n, p.d, .int b] := fun _ => rfl
    have l3 : (st3 n p a).length = 3 := rfl
    unfold MB_law_moved runBW
    rw [startB2]
    simp [startD, F_law_moved, hmn, d3, hq, ex, ey, hs, i0, i1, i2, s2, hg2, hnb, st, l3, objAt]
    simp [st3]
end BL

set_option linter.all false
set_option maxRecDepth 100000
set_option maxHeartbeats 8000000
namespace BL
open PySem
theorem gAll_const {α : Type} {z : α} : gAll (fun _ => some z) = some z := gAll_of fun _ => rfl
theorem at0 {x : Dt} {xs : List Dt} : atD (x :: xs) 0 = some x := rfl
theorem at1 {x y : Dt} {xs : List Dt} : atD (x :: y :: xs) 1 = some y := rfl
theorem nth0 {x : List Dt} {xs : List (List Dt)} : nthB (x :: xs) (.int 0) = some x := rfl
theorem nth1 {x y : List Dt} {xs : List (List Dt)} : nthB (x :: y :: xs) (.int 1) = some y := rfl
def Inv14 (sc : List Dt) (T : Int) (n0 : Nat) (p0 : Pose) (n1 : Nat) (p1 : Pose) (r : Env) : Prop := ∃ a0 a1 x4 x5 x6 x7 x8 x9 x10 x11 x12, a0 < 4 ^ n0 ∧ a1 < 4 ^ n1 ∧
  r = [some (.scr sc), some (.d (.int T)), some (.bxs false [st3 n0 p0 a0, st3 n1 p1 a1]), some (.bxs true [st3 n0 p0 a0, st3 n1 p1 a1]), x4, x5, x6, x7, x8, x9, x10, x11, x12]
theorem turn14 (sc : List Dt) (T : Int) (n0 : Nat) (h0 : n0 ≤ 40) (p0 : Pose) (n1 : Nat) (h1 : n1 ≤ 40) (p1 : Pose) (k : Nat) (c : Int) (r : Env) (hk : k < 70) (hr : Inv14 sc T n0 p0 n1 p1 r) :
    ∃ r2, B_law_k14_2 ((r.set 4 (some (.d (.int k)))).set 5 (some (.d (.int c)))) = some (.nx r2) ∧ Inv14 sc T n0 p0 n1 p1 r2 := by
  obtain ⟨a0, a1, x4, x5, x6, x7, x8, x9, x10, x11, x12, ha0, ha1, rfl⟩ := hr
  have hm := mixed_ok c k (by omega) (by omega)
  obtain ⟨v0, v1⟩ := mixed_bd c k
  generalize mixed c k = v at *
  have d4 : okDiv 4 = true := by decide
  have d5 : okDiv 5 = true := by decide
  have d20 : okDiv 20 = true := by decide
  have d40 : okDiv 40 = true := by decide
  have s2 : sizeOk 2 = true := by decide
  have u1 : ∀ x y : Dt, cutD [x, y] none (some 1) = [x] := fun x y => rfl
  have u2 : ∀ x y : Dt, cutD [x, y] none (some 2) = [x, y] := fun x y => rfl
  obtain ⟨b0, hb0, eb0⟩ := moved_ok n0 a0 h0 p0 ha0 c (v / 20) (by omega)
  obtain ⟨b1, hb1, eb1⟩ := moved_ok n1 a1 h1 p1 ha1 c (v / 20) (by omega)
  have r0 := fun s => refused_ok s n0 a0 h0 p0 ha0 (v / 20) (by omega)
  have r1 := fun s => refused_ok s n1 a1 h1 p1 ha1 (v / 20) (by omega)
  have g0 := fun s a ha => law_right_ok s n0 a h0 p0 ha (v / 40) (by omega)
  have g1 := fun s a ha => law_right_ok s n1 a h1 p1 ha (v / 40) (by omega)
  have g00 := fun s => g0 s a0 ha0
  have g01 := fun s => g0 s b0 hb0
  have g10 := fun s => g1 s a1 ha1
  have g11 := fun s => g1 s b1 hb1
  have hat : v % 5 / 4 = 0 ∨ v % 5 / 4 = 1 := by omega
  have hor : v / 20 % 2 = 0 ∨ v / 20 % 2 = 1 := by omega
  by_cases hrf : v / 5 % 4 = 0
  · rcases hat with q | q <;> rcases hor with w | w
    all_goals
      simp [B_law_k14_2, B_law_k14_1, forGo, hm, d4, d5, d20, d40, s2, hrf, q, w, boxD, nth0, nth1, gAll_const, r0, r1, g00, g10, u1, u2, iList, oUpTo, okD, flatD]
      exact ⟨a0, a1, _, _, _, _, _, _, _, _, _, ha0, ha1, rfl⟩
  · rcases hat with q | q <;> rcases hor with w | w
    · simp [B_law_k14_2, B_law_k14_1, forGo, hm, d4, d5, d20, d40, s2, hrf, q, w, boxD, nth0, nth1, gAll_const, eb0, g01, g10, u1, u2, iList, oUpTo, okD, flatD]
      exact ⟨b0, a1, _, _, _, _, _, _, _, _, _, hb0, ha1, rfl⟩
    · simp [B_law_k14_2, B_law_k14_1, forGo, hm, d4, d5, d20, d40, s2, hrf, q, w, boxD, nth0, nth1, gAll_const, eb0, g01, g10, u1, u2, iList, oUpTo, okD, flatD]
      exact ⟨b0, a1, _, _, _, _, _, _, _, _, _, hb0, ha1, rfl⟩
    · simp [B_law_k14_2, B_law_k14_1, forGo, hm, d4, d5, d20, d40, s2, hrf, q, w, boxD, nth0, nth1, gAll_const, eb1, g00, g11, u1, u2, iList, oUpTo, okD, flatD]
      exact ⟨a0, b1, _, _, _, _, _, _, _, _, _, ha0, hb1, rfl⟩
    · simp [B_law_k14_2, B_law_k14_1, forGo, hm, d4, d5, d20, d40, s2, hrf, q, w, boxD, nth0, nth1, gAll_const, eb1, g00, g11, u1, u2, iList, oUpTo, okD, flatD]
      exact ⟨a0, b1, _, _, _, _, _, _, _, _, _, ha0, hb1, rfl⟩
theorem intsOf14 : ∀ ns : List Int, intsOf (ns.map PyData.int) = some ns
  | [] => rfl
  | n :: ns => by
    rw [List.map_cons]
    unfold intsOf
    rw [intsOf14 ns]
    rfl
theorem enumLen14 : ∀ (xs : List Dt) (k : Nat), (enumD k xs).length = xs.length
  | [], _ => rfl
  | x :: xs, k => by unfold enumD; rw [List.length_cons, enumLen14 xs, List.length_cons]
theorem tup14 (i j : Nat) (x y : Dt) (r : Env) : gTp [i, j] (.tuple [x, y]) r = some ((r.set i (some (.d x))).set j (some (.d y))) := rfl
theorem mix14 : ∀ (xs : List Int) (k : Nat) (r : Env), r.length = 13 → k + xs.length ≤ 500 → ∃ ys : List Int, ys.length = xs.length ∧ 0 ≤ ys.sum ∧ lcGo (gTp [4, 5]) eYes (eCall G_law_mixed (aCons (eVar 5) (aCons (eVar 4) aNil))) r (enumD k (xs.map PyData.int)) = some (ys.map PyData.int)
  | [], k, r, _, _ => ⟨[], rfl, by decide, rfl⟩
  | x :: xs, k, r, h, hk => by
    rw [List.length_cons] at hk
    obtain ⟨ys, hl, h0, ih⟩ := mix14 xs (k + 1) r h (by omega)
    have hm := mixed_ok x k (by omega) (by omega)
    have hb := mixed_bd x k
    refine ⟨mixed x k :: ys, by simp [hl], by rw [List.sum_cons]; omega, ?_⟩
    rw [List.map_cons]
    unfold enumD lcGo
    rw [ih]
    have e1 : ((r.set 4 (some (Sl.d (.int (k : Int))))).set 5 (some (.d (.int x))))[5]? = some (some (.d (.int x))) := List.getElem?_set_self (by rw [List.length_set]; omega)
    have e2 : ((r.set 4 (some (Sl.d (.int (k : Int))))).set 5 (some (.d (.int x))))[4]? = some (some (.d (.int k))) := by
      rw [List.getElem?_set_ne (by omega), List.getElem?_set_self (by omega)]
    rw [tup14]
    simp only [Option.bind_some, eYes, toB_bool, if_true, eCall, aCons, eVar, e1, e2, aNil, hm, List.map_cons]
theorem flat_pose (p : Pose) : flatD p.d = true := rfl
theorem X_Stroll_ok (n : Nat) (hn : n ≤ 40) (p : Pose) : X_Stroll [.int n, p.d] = some (.ok .none) := by
  simp [X_Stroll, twoX, xs_good hn, xp_good p]
theorem last14 (sc : List Dt) (T : Int) (hT : 0 ≤ T) (n0 : Nat) (h0 : n0 ≤ 40) (p0 : Pose) (n1 : Nat) (h1 : n1 ≤ 40) (p1 : Pose) (r : Env) (hr : Inv14 sc T n0 p0 n1 p1 r) :
    (sSeq (sAsg (gNm 6) (eCall (c2 oMin2) (aCons (eOp oSub (eCall G_law_many (aCons (eBxIx 2 (eC (.int 0)) (eC (.int 0))) aNil)) (eC (.int 1))) (aCons (eC (.int 200)) aNil))))
    (sSeq (sAsg (gNm 7) (eIf (eOp oLt (eBxIx 2 (eC (.int 0)) (eC (.int 0))) (eC (.int 3))) (eBxM 3 (eC (.int 0)) M_ways (aCons (eC (.int 1000)) aNil)) (eBxM 3 (eC (.int 0)) M_ways (aCons (eVar 6) aNil))))
    (sSeq (sAsg (gNm 8) (eCall G_law_ways (aCons (eBxIx 2 (eC (.int 0)) (eC (.int 0))) (aCons (eBxIx 2 (eC (.int 0)) (eC (.int 1))) (aCons (eBxIx 2 (eC (.int 0)) (eC (.int 2))) (aCons (eOp oIx (eLst (aCons (eVar 6) (aCons (eC (.int 1000)) aNil))) (eCall (c1 oInt) (aCons (eOp oLt (eBxIx 2 (eC (.int 0)) (eC (.int 0))) (eC (.int 3))) aNil))) aNil))))))
    (sRet (eAnd (eOp oEq (eVar 7) (eVar 8)) (eAnd (eBxF 3 2 (eC (.int 0)) (eC (.int 0)) M_law_right (aCons (eVar 1) aNil)) (eBxF 3 2 (eC (.int 1)) (eC (.int 1)) M_law_right (aCons (eVar 1) aNil)))))))) r = some (.rt (.bool true)) := by
  obtain ⟨a0, a1, x4, x5, x6, x7, x8, x9, x10, x11, x12, ha0, ha1, rfl⟩ := hr
  have g0 := fun s => law_right_ok s n0 a0 h0 p0 ha0 T hT
  have g1 := fun s => law_right_ok s n1 a1 h1 p1 ha1 T hT
  have s2 : sizeOk 2 = true := by decide
  have hmn := many_ok n0 (by omega)
  have c4 := cast4 n0
  have i0 : atD (st3 n0 p0 a0) 0 = some (.int n0) := rfl
  have i1 : atD (st3 n0 p0 a0) 1 = some p0.d := rfl
  have i2 : atD (st3 n0 p0 a0) 2 = some (.int a0) := rfl
  have f1 := flat_pose p0
  have fi : ∀ i : Int, flatD (.int i) = true := fun _ => rfl
  have fb : ∀ i : Bool, flatD (.bool i) = true := fun _ => rfl
  obtain ⟨k, hk, ek⟩ : ∃ k : Nat, k ≤ 1000 ∧ oMin2 (.int (4 ^ n0 - 1)) (.int 200) = some (.int (k : Int)) := by
    by_cases h : (200 : Int) < 4 ^ n0 - 1
    · exact ⟨200, by omega, by simp [oMin2, h]⟩
    · exact ⟨4 ^ n0 - 1, by omega, by simp [oMin2, h]; omega⟩
  have w1 := fun s => M_ways_ok s n0 a0 1000 h0 p0 ha0 (by omega)
  have w2 := fun s => M_ways_ok s n0 a0 k h0 p0 ha0 hk
  have v1 := law_ways_ok n0 h0 p0 a0 1000 ha0 (by omega)
  have v2 := law_ways_ok n0 h0 p0 a0 k ha0 hk
  have q1 := eq_ways n0 p0 a0 (cn n0 a0 1000)
  have q2 := eq_ways n0 p0 a0 (cn n0 a0 k)
  have w1' : ∀ s, M_ways s (st3 n0 p0 a0) [.int 1000] = _ := w1
  have v1' : G_law_ways [.int n0, p0.d, .int a0, .int 1000] = _ := v1
  by_cases h3 : (n0 : Int) < 3
  · simp [boxD, nth0, nth1, gAll_const, g0, g1, i0, i1, i2, f1, fi, fb, hmn, ek, h3, w1', v1', q1, s2, okD, at1]
  · simp [boxD, nth0, nth1, gAll_const, g0, g1, i0, i1, i2, f1, fi, fb, hmn, ek, h3, w2, v2, q2, s2, okD, at0]
theorem own14 (T : Int) (n0 n1 : Nat) (p0 p1 : Pose) (e0 : G_law_size [.int T] = some (.int n0)) (e1 : G_law_size [.int (T / 10)] = some (.int n1)) (q0 : G_law_pose [.int (T / 8)] = some p0.d) (q1 : G_law_pose [.int (T / 9)] = some p1.d)
    (x0 x2 x3 x4 x5 x6 x7 x8 x9 x10 x11 x12 : Option Sl) : aLcB (iRng1 (eC (.int 2))) (gNm 4) (aFlat (aCons (eCall G_law_size (aCons (eOp oDiv (eVar 1) (eOp oAdd (eC (.int 1)) (eOp oMul (eC (.int 9)) (eVar 4)))) aNil)) (aCons (eCall G_law_pose (aCons (eOp oDiv (eVar 1) (eOp oAdd (eC (.int 8)) (eVar 4))) aNil)) (aCons (eC (.int 0)) aNil)))) [4]
      [x0, some (.d (.int T)), x2, x3, x4, x5, x6, x7, x8, x9, x10, x11, x12] = some [st3 n0 p0 0, st3 n1 p1 0] := by
  have hr : ∀ r, iRng1 (eC (.int 2)) r = some [.int 0, .int 1] := fun _ => rfl
  have s2 : sizeOk 2 = true := by decide
  have s3 : sizeOk 3 = true := by decide
  have m0 : okMul 9 0 = true := by decide
  have m1 : okMul 9 1 = true := by decide
  have d1 : okDiv 1 = true := by decide
  have d8 : okDiv 8 = true := by decide
  have d9 : okDiv 9 = true := by decide
  have d10 : okDiv 10 = true := by decide
  have f0 := flat_pose p0
  have f1 := flat_pose p1
  have fi : ∀ i : Int, flatD (.int i) = true := fun _ => rfl
  unfold aLcB
  rw [hr]
  simp [goB, wipeD, aFlat, s2, s3, m0, m1, d1, d8, d9, d10, e0, e1, q0, q1, f0, f1, fi, st3]
theorem str14 (n0 : Nat) (h0 : n0 ≤ 40) (n1 : Nat) (h1 : n1 ≤ 40) (p0 p1 : Pose) (x0 x1 x3 x4 x5 x6 x7 x8 x9 x10 x11 x12 : Option Sl) :
    aLcB (iList (eVar 2)) (gNm 12) (aStroll X_Stroll (aCons (eOp oIx (eVar 12) (eC (.int 0))) (aCons (eOp oIx (eVar 12) (eC (.int 1))) aNil))) [12] (freeze [x0, x1, some (.bxs false [st3 n0 p0 0, st3 n1 p1 0]), x3, x4, x5, x6, x7, x8, x9, x10, x11, x12]) = some [st3 n0 p0 0, st3 n1 p1 0] := by
  have s2 : sizeOk 2 = true := by decide
  have f0 := flat_pose p0
  have f1 := flat_pose p1
  have fi : ∀ i : Int, flatD (.int i) = true := fun _ => rfl
  have g0 := X_Stroll_ok n0 h0 p0
  have g1 := X_Stroll_ok n1 h1 p1
  unfold aLcB freeze
  simp [frz1, iList, goB, wipeD, aStroll, s2, st3, at0, at1, g0, g1, f0, f1, fi]
theorem law_true (ns : List Int) (h : ns.length ≤ 63) : G_law_k14 (ns.map PyData.int) = some (.bool true) := by
  have hw : wipeD (startL 13 (ns.map PyData.int)) [4, 5] = startL 13 (ns.map PyData.int) := rfl
  obtain ⟨ys, hyl, hy0, hlc⟩ := mix14 (ns.take 60) 0 (startL 13 (ns.map PyData.int)) rfl (by simp; omega)
  have hie : ∀ t, iEnum (eScr none (some 60) 0) (some (.scr (ns.map PyData.int)) :: t) = some (enumD 0 ((ns.take 60).map PyData.int)) := fun t => by
    refine iEnum_of ?_
    show some (PyData.list (cutD (ns.map PyData.int) none (some ((60 : Nat) : Int)))) = _
    rw [cut_ints]
  have hel : (enumD 0 ((ns.take 60).map PyData.int)).length ≤ 60 := by
    rw [enumLen14, List.length_map, List.length_take]
    omega
  have hz : sizeOk (enumD 0 ((ns.take 60).map PyData.int)).length = true := sz_of (by omega)
  have hsum : oSum (.list (ys.map PyData.int)) = some (.int ys.sum) := by
    show (intsOf (ys.map PyData.int)).map (fun ns => PyData.int ns.sum) = _
    rw [intsOf14]
    rfl
  have htot : eCall (c1 oSum) (aCons (eLc (iEnum (eScr none (some 60) 0)) (gTp [4, 5]) eYes (eCall G_law_mixed (aCons (eVar 5) (aCons (eVar 4) aNil))) [4, 5]) aNil) (startL 13 (ns.map PyData.int)) = some (.int ys.sum) := by
    have e := hie (List.replicate 12 none)
    have e' : iEnum (eScr none (some 60) 0) (startL 13 (ns.map PyData.int)) = some (enumD 0 ((ns.take 60).map PyData.int)) := e
    simp only [eCall, aCons, eLc, e', Option.bind_some, hz, if_true, hw]
    rw [hlc]
    simp only [Option.bind_some, aNil, c1_one, hsum]
  generalize ys.sum = T at *
  obtain ⟨n0, h0, e0⟩ := size_ok T
  obtain ⟨n1, h1, e1⟩ := size_ok (T / 10)
  obtain ⟨p0, q0⟩ := pose_ok (T / 8)
  obtain ⟨p1, q1⟩ := pose_ok (T / 9)
  obtain ⟨r', hl, hi⟩ := for_mem (g := gTp [4, 5]) (b := B_law_k14_2) (P := Inv14 (ns.map PyData.int) T n0 p0 n1 p1) (xs := enumD 0 ((ns.take 60).map PyData.int))
    (r := [some (.scr (ns.map PyData.int)), some (.d (.int T)), some (.bxs false [st3 n0 p0 0, st3 n1 p1 0]), some (.bxs true [st3 n0 p0 0, st3 n1 p1 0]), none, none, none, none, none, none, none, none, none]) (fun x hx r hr => by
      obtain ⟨k, c, hk, rfl⟩ := enum_mem _ _ _ hx
      obtain ⟨r2, g1, g2⟩ := turn14 (ns.map PyData.int) T n0 h0 p0 n1 h1 p1 k c r (by simp at hk; omega) hr
      exact ⟨_, r2, rfl, g1, g2⟩)
    ⟨0, 0, none, none, none, none, none, none, none, none, none, Nat.pow_pos (by decide), Nat.pow_pos (by decide), rfl⟩
  have hfin := last14 (ns.map PyData.int) T hy0 n0 h0 p0 n1 h1 p1 r' hi
  have k1 : sAsg (gNm 1) (eCall (c1 oSum) (aCons (eLc (iEnum (eScr none (some 60) 0)) (gTp [4, 5]) eYes (eCall G_law_mixed (aCons (eVar 5) (aCons (eVar 4) aNil))) [4, 5]) aNil)) (startL 13 (ns.map PyData.int)) =
      some (.nx [some (.scr (ns.map PyData.int)), some (.d (.int T)), none, none, none, none, none, none, none, none, none, none, none]) := by
    unfold sAsg
    rw [htot]
    rfl
  have k2 := own14 T n0 n1 p0 p1 e0 e1 q0 q1 (some (.scr (ns.map PyData.int))) none none none none none none none none none none none
  have k3 := str14 n0 h0 n1 h1 p0 p1 (some (.scr (ns.map PyData.int))) (some (.d (.int T))) none none none none none none none none none none
  have k4 := hie [some (.d (.int T)), some (.bxs false [st3 n0 p0 0, st3 n1 p1 0]), some (.bxs true [st3 n0 p0 0, st3 n1 p1 0]), none, none, none, none, none, none, none, none, none]
  unfold G_law_k14 runL F_law_k14
  rw [sSeq, k1, Option.bind_some]
  dsimp only
  rw [sSeq, sBoxs, k2, Option.bind_some, Option.bind_some]
  dsimp only [List.set]
  rw [sSeq, sBoxs, k3, Option.bind_some, Option.bind_some]
  dsimp only [List.set]
  rw [sSeq, sFor, k4, Option.bind_some, hl, Option.bind_some]
  dsimp only
  rw [hfin]
  rfl
end BL

set_option Elab.async false
set_option linter.all false
set_option maxRecDepth 100000
set_option maxHeartbeats 2000000
namespace BL
open PySem PySem.Spec PyProof.Rows L2 LamX
/-! ### the text -/
def top (i : Nat) : Stmt := PySem.Challenge.pw_bendline_k14_strolls.main.body.getD i (.Pass ⟨0, 0, 0, 0⟩)
abbrev s_cells_of : Stmt := top 21
abbrev N_cells_of : List Str := ["level"]
theorem sc_cells_of : FnScope N_cells_of ["level"] (defScope s_cells_of) := ⟨rfl, rfl, rfl, by decide +kernel, rfl, by decide +kernel, by decide +kernel⟩
abbrev s_both : Stmt := top 17
abbrev N_both : List Str := ["one", "other", "pose"]
theorem sc_both : FnScope N_both ["one", "other"] (defScope s_both) := ⟨rfl, rfl, rfl, by decide +kernel, rfl, by decide +kernel, by decide +kernel⟩
abbrev s_led : Stmt := top 18
abbrev N_led : List Str := ["pose", "most", "x", "y"]
theorem sc_led : FnScope N_led ["pose", "most", "x", "y"] (defScope s_led) := ⟨rfl, rfl, rfl, by decide +kernel, rfl, by decide +kernel, by decide +kernel⟩
abbrev s_quarter : Stmt := top 23
abbrev N_quarter : List Str := ["pose", "digit", "inner", "right", "up"]
theorem sc_quarter : FnScope N_quarter ["pose", "digit"] (defScope s_quarter) := ⟨rfl, rfl, rfl, by decide +kernel, rfl, by decide +kernel, by decide +kernel⟩
abbrev s_come_to : Stmt := top 24
abbrev N_come_to : List Str := ["size", "pose", "number", "level", "x", "y", "here", "inner", "right", "up"]
theorem sc_come_to : FnScope N_come_to ["size", "pose", "number", "level"] (defScope s_come_to) := ⟨rfl, rfl, rfl, by decide +kernel, rfl, by decide +kernel, by decide +kernel⟩
abbrev s_is_among : Stmt := top 12
abbrev N_is_among : List Str := ["thing", "least", "most"]
theorem sc_is_among : FnScope N_is_among ["thing", "least", "most"] (defScope s_is_among) := ⟨rfl, rfl, rfl, by decide +kernel, rfl, by decide +kernel, by decide +kernel⟩
abbrev s_need_number : Stmt := top 22
abbrev N_need_number : List Str := ["number", "most"]
theorem sc_need_number : FnScope N_need_number ["number", "most"] (defScope s_need_number) := ⟨rfl, rfl, rfl, by decide +kernel, rfl, by decide +kernel, by decide +kernel⟩
abbrev s_need_pose : Stmt := top 14
abbrev N_need_pose : List Str := ["pose"]
theorem sc_need_pose : FnScope N_need_pose ["pose"] (defScope s_need_pose) := ⟨rfl, rfl, rfl, by decide +kernel, rfl, by decide +kernel, by decide +kernel⟩
abbrev s_need_size : Stmt := top 13
abbrev N_need_size : List Str := ["size"]
theorem sc_need_size : FnScope N_need_size ["size"] (defScope s_need_size) := ⟨rfl, rfl, rfl, by decide +kernel, rfl, by decide +kernel, by decide +kernel⟩
abbrev s_cell_at : Stmt := top 25
abbrev N_cell_at : List Str := ["size", "pose", "number", "x", "y", "here"]
theorem sc_cell_at : FnScope N_cell_at ["size", "pose", "number"] (defScope s_cell_at) := ⟨rfl, rfl, rfl, by decide +kernel, rfl, by decide +kernel, by decide +kernel⟩
abbrev s_Stroll_here : Stmt := (clsBody (top 31)).getD 2 (.Pass ⟨0, 0, 0, 0⟩)
abbrev N_Stroll_here : List Str := ["self"]
theorem sc_Stroll_here : FnScope N_Stroll_here ["self"] (defScope s_Stroll_here) := ⟨rfl, rfl, rfl, by decide +kernel, rfl, by decide +kernel, by decide +kernel⟩
abbrev s_Stroll_ways : Stmt := (clsBody (top 31)).getD 5 (.Pass ⟨0, 0, 0, 0⟩)
abbrev N_Stroll_ways : List Str := ["self", "steps", "found", "last", "number", "cell"]
theorem sc_Stroll_ways : FnScope N_Stroll_ways ["self", "steps"] (defScope s_Stroll_ways) := ⟨rfl, rfl, rfl, by decide +kernel, rfl, by decide +kernel, by decide +kernel⟩
abbrev s_law_many : Stmt := top 38
abbrev N_law_many : List Str := ["_law_level"]
theorem sc_law_many : FnScope N_law_many ["_law_level"] (defScope s_law_many) := ⟨rfl, rfl, rfl, by decide +kernel, rfl, by decide +kernel, by decide +kernel⟩
abbrev s_law_mixed : Stmt := top 33
abbrev N_law_mixed : List Str := ["_law_cell", "_law_k", "_law_number"]
theorem sc_law_mixed : FnScope N_law_mixed ["_law_cell", "_law_k"] (defScope s_law_mixed) := ⟨rfl, rfl, rfl, by decide +kernel, rfl, by decide +kernel, by decide +kernel⟩
abbrev s_Stroll_go : Stmt := (clsBody (top 31)).getD 3 (.Pass ⟨0, 0, 0, 0⟩)
abbrev N_Stroll_go : List Str := ["self", "steps"]
theorem sc_Stroll_go : FnScope N_Stroll_go ["self", "steps"] (defScope s_Stroll_go) := ⟨rfl, rfl, rfl, by decide +kernel, rfl, by decide +kernel, by decide +kernel⟩
abbrev s_found_at : Stmt := top 26
abbrev N_found_at : List Str := ["size", "pose", "cell", "level", "index", "here", "inner", "spot", "digit", "within", "right", "up"]
theorem sc_found_at : FnScope N_found_at ["size", "pose", "cell", "level"] (defScope s_found_at) := ⟨rfl, rfl, rfl, by decide +kernel, rfl, by decide +kernel, by decide +kernel⟩
abbrev s_is_cell : Stmt := top 15
abbrev N_is_cell : List Str := ["size", "thing", "most"]
theorem sc_is_cell : FnScope N_is_cell ["size", "thing"] (defScope s_is_cell) := ⟨rfl, rfl, rfl, by decide +kernel, rfl, by decide +kernel, by decide +kernel⟩
abbrev s_need_cell : Stmt := top 16
abbrev N_need_cell : List Str := ["size", "cell"]
theorem sc_need_cell : FnScope N_need_cell ["size", "cell"] (defScope s_need_cell) := ⟨rfl, rfl, rfl, by decide +kernel, rfl, by decide +kernel, by decide +kernel⟩
abbrev s_number_of : Stmt := top 27
abbrev N_number_of : List Str := ["size", "pose", "cell"]
theorem sc_number_of : FnScope N_number_of ["size", "pose", "cell"] (defScope s_number_of) := ⟨rfl, rfl, rfl, by decide +kernel, rfl, by decide +kernel, by decide +kernel⟩
abbrev s_Stroll_to : Stmt := (clsBody (top 31)).getD 4 (.Pass ⟨0, 0, 0, 0⟩)
abbrev N_Stroll_to : List Str := ["self", "cell"]
theorem sc_Stroll_to : FnScope N_Stroll_to ["self", "cell"] (defScope s_Stroll_to) := ⟨rfl, rfl, rfl, by decide +kernel, rfl, by decide +kernel, by decide +kernel⟩
abbrev s_law_among : Stmt := top 36
abbrev N_law_among : List Str := ["_law_cell", "_law_k", "_law_beyond", "_law_number", "_law_wide"]
theorem sc_law_among : FnScope N_law_among ["_law_cell", "_law_k", "_law_beyond"] (defScope s_law_among) := ⟨rfl, rfl, rfl, by decide +kernel, rfl, by decide +kernel, by decide +kernel⟩
abbrev s_law_laid : Stmt := top 40
abbrev N_law_laid : List Str := ["_law_pose_here", "_law_side_here", "_law_x", "_law_y", "_law_m"]
theorem sc_law_laid : FnScope N_law_laid ["_law_pose_here", "_law_side_here", "_law_x", "_law_y"] (defScope s_law_laid) := ⟨rfl, rfl, rfl, by decide +kernel, rfl, by decide +kernel, by decide +kernel⟩
abbrev s_law_side : Stmt := top 37
abbrev N_law_side : List Str := ["_law_level"]
theorem sc_law_side : FnScope N_law_side ["_law_level"] (defScope s_law_side) := ⟨rfl, rfl, rfl, by decide +kernel, rfl, by decide +kernel, by decide +kernel⟩
abbrev s_law_numbered : Stmt := top 42
abbrev N_law_numbered : List Str := ["_law_size_here", "_law_pose_here", "_law_cell", "_law_x", "_law_y", "_law_number", "_law_level", "_law_side_here", "_law_digit"]
theorem sc_law_numbered : FnScope N_law_numbered ["_law_size_here", "_law_pose_here", "_law_cell"] (defScope s_law_numbered) := ⟨rfl, rfl, rfl, by decide +kernel, rfl, by decide +kernel, by decide +kernel⟩
abbrev s_law_moved : Stmt := top 47
abbrev N_law_moved : List Str := ["_law_stroll", "_law_own", "_law_cell", "_law_number", "_law_cells", "_law_spot", "_law_goal", "_law_steps"]
theorem sc_law_moved : FnScope N_law_moved ["_law_stroll", "_law_own", "_law_cell", "_law_number"] (defScope s_law_moved) := ⟨rfl, rfl, rfl, by decide +kernel, rfl, by decide +kernel, by decide +kernel⟩
abbrev s_law_pose : Stmt := top 35
abbrev N_law_pose : List Str := ["_law_number"]
theorem sc_law_pose : FnScope N_law_pose ["_law_number"] (defScope s_law_pose) := ⟨rfl, rfl, rfl, by decide +kernel, rfl, by decide +kernel, by decide +kernel⟩
abbrev s_law_kept : Stmt := top 43
abbrev s_law_word : Stmt := top 44
abbrev N_law_word : List Str := ["_law_e", "_law_some", "_law_word_here", "_law_is_it"]
theorem sc_law_word : FnScope N_law_word ["_law_e"] (defScope s_law_word) := ⟨rfl, rfl, rfl, by decide +kernel, rfl, by decide +kernel, by decide +kernel⟩
abbrev s_law_refused : Stmt := top 48
abbrev N_law_refused : List Str := ["_law_stroll", "_law_own", "_law_number", "_law_cells", "_law_odd", "_law_side_here", "_law_some", "_law_steps"]
theorem sc_law_refused : FnScope N_law_refused ["_law_stroll", "_law_own", "_law_number"] (defScope s_law_refused) := ⟨rfl, rfl, rfl, by decide +kernel, rfl, by decide +kernel, by decide +kernel⟩
abbrev s_Stroll_number : Stmt := (clsBody (top 31)).getD 1 (.Pass ⟨0, 0, 0, 0⟩)
abbrev N_Stroll_number : List Str := ["self"]
theorem sc_Stroll_number : FnScope N_Stroll_number ["self"] (defScope s_Stroll_number) := ⟨rfl, rfl, rfl, by decide +kernel, rfl, by decide +kernel, by decide +kernel⟩
abbrev s_law_walked : Stmt := top 41
abbrev N_law_walked : List Str := ["_law_size_here", "_law_pose_here", "_law_number", "_law_x", "_law_y", "_law_side_here", "_law_level", "_law_digit"]
theorem sc_law_walked : FnScope N_law_walked ["_law_size_here", "_law_pose_here", "_law_number"] (defScope s_law_walked) := ⟨rfl, rfl, rfl, by decide +kernel, rfl, by decide +kernel, by decide +kernel⟩
abbrev s_law_ways : Stmt := top 45
abbrev N_law_ways : List Str := ["_law_size_here", "_law_pose_here", "_law_at", "_law_steps", "_law_found", "_law_last", "_law_number", "_law_cell", "_law_step"]
theorem sc_law_ways : FnScope N_law_ways ["_law_size_here", "_law_pose_here", "_law_at", "_law_steps"] (defScope s_law_ways) := ⟨rfl, rfl, rfl, by decide +kernel, rfl, by decide +kernel, by decide +kernel⟩
abbrev s_law_whole : Stmt := top 39
abbrev N_law_whole : List Str := ["_law_found"]
theorem sc_law_whole : FnScope N_law_whole ["_law_found"] (defScope s_law_whole) := ⟨rfl, rfl, rfl, by decide +kernel, rfl, by decide +kernel, by decide +kernel⟩
abbrev s_law_right : Stmt := top 46
abbrev N_law_right : List Str := ["_law_stroll", "_law_own", "_law_number", "_law_turn", "_law_ask", "_law_steps", "_law_found"]
theorem sc_law_right : FnScope N_law_right ["_law_stroll", "_law_own", "_law_number"] (defScope s_law_right) := ⟨rfl, rfl, rfl, by decide +kernel, rfl, by decide +kernel, by decide +kernel⟩
abbrev s_law_size : Stmt := top 34
abbrev N_law_size : List Str := ["_law_number"]
theorem sc_law_size : FnScope N_law_size ["_law_number"] (defScope s_law_size) := ⟨rfl, rfl, rfl, by decide +kernel, rfl, by decide +kernel, by decide +kernel⟩
abbrev s_law_k14 : Stmt := top 49
abbrev N_law_k14 : List Str := ["_law_script", "_law_total", "_law_owns", "_law_strolls", "_law_k", "_law_cell", "_law_steps", "_law_found", "_law_due", "_law_number", "_law_at", "_law_one", "_law_own"]
theorem sc_law_k14 : FnScope N_law_k14 ["_law_script"] (defScope s_law_k14) := ⟨rfl, rfl, rfl, by decide +kernel, rfl, by decide +kernel, by decide +kernel⟩
abbrev s_Stroll_init : Stmt := (clsBody (top 31)).getD 0 (.Pass ⟨0, 0, 0, 0⟩)
theorem sc_Stroll_init : FnScope ["self", "size", "pose"] ["self", "size", "pose"] (defScope s_Stroll_init) := ⟨rfl, rfl, rfl, by decide +kernel, rfl, by decide +kernel, by decide +kernel⟩
section
variable {P : Program} {w : World} {K : PySem.W.Frag} {mg : Str → Option Value} {base : Heap}
theorem kept_d (d : DefAt K mg "_law_kept" s_law_kept ["_law_deed"]) (hc : mg "LineError" = some (.ref (He.ga K "LineError"))) : KeptD K mg "_law_kept" "_law_deed" "_law_kept_here" "_law_e" "LineError" s_law_kept (He.ga K "LineError") :=
  ⟨d, ⟨rfl, rfl, rfl, by decide +kernel, rfl, by decide +kernel, by decide +kernel⟩, ⟨_, _, _, _, _, _, _, _, _, _, _, _, _, _, _, rfl⟩, rfl, by decide +kernel, by decide +kernel, by decide +kernel, by decide +kernel, hc, by decide, by decide, by decide, by decide, by decide, by decide, by decide⟩
theorem ok_cells_of (Fn : DefAt K mg "cells_of" s_cells_of ["level"])  : Av P w K mg base "cells_of" ["level"] 1 G_cells_of := by
  have nd := sc_cells_of.nd
  obtain ⟨fa, fd, Fn, gl, bd⟩ := Fn
  refine ⟨fa, fd, fn_pure Fn sc_cells_of rfl rfl (fun cdv A outer s H E hr => ?_), gl, Fn.kp, bd⟩
  exact (zOne (zRet (dOp opD_shl dInt (dOp opD_mul dInt (dVar (pv 0))))))
theorem ok_both (Fn : DefAt K mg "both" s_both ["one", "other"]) (g_POSES : GloD K mg "POSES" d_POSES) : Av P w K mg base "both" ["one", "other"] 1 G_both := by
  have nd := sc_both.nd
  obtain ⟨fa, fd, Fn, gl, bd⟩ := Fn
  refine ⟨fa, fd, fn_pure Fn sc_both rfl rfl (fun cdv A outer s H E hr => ?_), gl, Fn.kp, bd⟩
  exact (zSeq (zIf (tCmp_ (opD_eq hr.units) (dVar (pv 0)) (dVar (pv 1)) (nomark _)) (zOne (zRet (dIx (dGlo g_POSES (by rfl)) dInt))) zNil)
    (zSeq (zIf (tCmp_ (opD_eq hr.units) (dVar (pv 0)) (dIx (dGlo g_POSES (by rfl)) dInt) (nomark _)) (zOne (zRet (dVar (pv 1)))) zNil)
    (zSeq (zIf (tCmp_ (opD_eq hr.units) (dVar (pv 1)) (dIx (dGlo g_POSES (by rfl)) dInt) (nomark _)) (zOne (zRet (dVar (pv 0)))) zNil)
    (zOne (zRet (dIx (dLc (own := [("pose", 2)]) (is := [2]) rfl nd (wTup (dSlice (dGlo g_POSES (by rfl)) pow_int pow_none)) (blkOk_by (own := [("pose", 2)]) (N := N_both) (sc := defScope s_both) (by decide +kernel)) (fun _ _ _ _ _ => (gNm_ (pg_name (i := 2) nd rfl (by first | exact Or.inl rfl | exact Or.inr rfl)))) (fun _ _ _ _ _ => (lOne (tCmp_ opD_notIn (dVar (pv 2)) (dTup (aCons_ (dVar (pv 0)) (aCons_ (dVar (pv 1)) aNil_))) (by rfl)))) (fun _ _ _ _ _ => (dVar (pv 2))) (by decide)) dInt))))))
theorem ok_led (Fn : DefAt K mg "led" s_led ["pose", "most", "x", "y"])  : Av P w K mg base "led" ["pose", "most", "x", "y"] 1 G_led := by
  have nd := sc_led.nd
  obtain ⟨fa, fd, Fn, gl, bd⟩ := Fn
  refine ⟨fa, fd, fn_pure Fn sc_led rfl rfl (fun cdv A outer s H E hr => ?_), gl, Fn.kp, bd⟩
  exact (zSeq (zIf (tCmp_ (opD_eq hr.units) (dVar (pv 0)) dStr (nomark _)) (zOne (zRet (dTup (aCons_ (dVar (pv 2)) (aCons_ (dVar (pv 3)) aNil_))))) zNil)
    (zSeq (zIf (tCmp_ (opD_eq hr.units) (dVar (pv 0)) dStr (nomark _)) (zOne (zRet (dTup (aCons_ (dVar (pv 3)) (aCons_ (dVar (pv 2)) aNil_))))) zNil)
    (zSeq (zIf (tCmp_ (opD_eq hr.units) (dVar (pv 0)) dStr (nomark _)) (zOne (zRet (dTup (aCons_ (dOp opD_sub (dVar (pv 1)) (dVar (pv 3))) (aCons_ (dOp opD_sub (dVar (pv 1)) (dVar (pv 2))) aNil_))))) zNil)
    (zOne (zRet (dTup (aCons_ (dOp opD_sub (dVar (pv 1)) (dVar (pv 2))) (aCons_ (dOp opD_sub (dVar (pv 1)) (dVar (pv 3))) aNil_))))))))
theorem ok_quarter (Fn : DefAt K mg "quarter" s_quarter ["pose", "digit"]) (c_both : Av P w K mg base "both" ["one", "other"] 1 G_both) (c_led : Av P w K mg base "led" ["pose", "most", "x", "y"] 1 G_led) (g_QUARTERS : GloD K mg "QUARTERS" d_QUARTERS) : Av P w K mg base "quarter" ["pose", "digit"] 2 G_quarter := by
  have nd := sc_quarter.nd
  obtain ⟨fa, fd, Fn, gl, bd⟩ := Fn
  refine ⟨fa, fd, fn_pure Fn sc_quarter rfl rfl (fun cdv A outer s H E hr => ?_), gl, Fn.kp, bd⟩
  exact (zSeq (zAsg (dIx (dGlo g_QUARTERS (by rfl)) (dVar (pv 1))) (gTp_ rfl (gCons_ (pg_name (i := 2) nd rfl (by first | exact Or.inl rfl | exact Or.inr rfl)) (gCons_ (pg_name (i := 3) nd rfl (by first | exact Or.inl rfl | exact Or.inr rfl)) (gCons_ (pg_name (i := 4) nd rfl (by first | exact Or.inl rfl | exact Or.inr rfl)) gNil_)))))
    (zSeq (zAsg (dCallA c_led (hr.mono (by decide)) (by rfl) (aCons_ (dVar (pv 0)) (aCons_ dInt (aCons_ (dVar (pv 3)) (aCons_ (dVar (pv 4)) aNil_))))) (gTp_ rfl (gCons_ (pg_name (i := 3) nd rfl (by first | exact Or.inl rfl | exact Or.inr rfl)) (gCons_ (pg_name (i := 4) nd rfl (by first | exact Or.inl rfl | exact Or.inr rfl)) gNil_))))
    (zOne (zRet (dTup (aCons_ (dCallA c_both (hr.mono (by decide)) (by rfl) (aCons_ (dVar (pv 0)) (aCons_ (dVar (pv 2)) aNil_))) (aCons_ (dVar (pv 3)) (aCons_ (dVar (pv 4)) aNil_))))))))
theorem ok_come_to (Fn : DefAt K mg "come_to" s_come_to ["size", "pose", "number", "level"]) (c_quarter : Av P w K mg base "quarter" ["pose", "digit"] 2 G_quarter) (n_range : mg "range" = none) (n_reversed : mg "reversed" = none) : Av P w K mg base "come_to" ["size", "pose", "number", "level"] 3 G_come_to := by
  have nd := sc_come_to.nd
  obtain ⟨fa, fd, Fn, gl, bd⟩ := Fn
  refine ⟨fa, fd, fn_pure Fn sc_come_to rfl rfl (fun cdv A outer s H E hr => ?_), gl, Fn.kp, bd⟩
  exact (zSeq (zSet (ps_set (i := 4) nd rfl (by first | exact Or.inl rfl | exact Or.inr rfl) dInt))
    (zSeq (zSet (ps_set (i := 5) nd rfl (by first | exact Or.inl rfl | exact Or.inr rfl) dInt))
    (zSeq (zSet (ps_set (i := 6) nd rfl (by first | exact Or.inl rfl | exact Or.inr rfl) (dVar (pv 1))))
    (zSeq (zFor PassesOwn.never rfl (wRev2 (by rfl) n_reversed (by rfl) n_range (dVar (pv 3)) (dVar (pv 0))) (gNm_ (pg_name (i := 7) nd rfl (by first | exact Or.inl rfl | exact Or.inr rfl))) (zSeq (zAsg (dCallA c_quarter (hr.mono (by decide)) (by rfl) (aCons_ (dVar (pv 6)) (aCons_ (dOp opD_and (dOp opD_shr (dVar (pv 2)) (dOp opD_mul dInt (dVar (pv 7)))) dInt) aNil_))) (gTp_ rfl (gCons_ (pg_name (i := 6) nd rfl (by first | exact Or.inl rfl | exact Or.inr rfl)) (gCons_ (pg_name (i := 8) nd rfl (by first | exact Or.inl rfl | exact Or.inr rfl)) (gCons_ (pg_name (i := 9) nd rfl (by first | exact Or.inl rfl | exact Or.inr rfl)) gNil_)))))
    (zSeq (zSet (ps_set (i := 4) nd rfl (by first | exact Or.inl rfl | exact Or.inr rfl) (dOp opD_add (dVar (pv 4)) (dOp opD_shl (dVar (pv 8)) (dVar (pv 7))))))
    (zOne (zSet (ps_set (i := 5) nd rfl (by first | exact Or.inl rfl | exact Or.inr rfl) (dOp opD_add (dVar (pv 5)) (dOp opD_shl (dVar (pv 9)) (dVar (pv 7))))))))))
    (zOne (zRet (dTup (aCons_ (dVar (pv 4)) (aCons_ (dVar (pv 5)) (aCons_ (dVar (pv 6)) aNil_))))))))))
theorem ok_is_among (Fn : DefAt K mg "is_among" s_is_among ["thing", "least", "most"]) (n_bool : mg "bool" = none) (n_int : mg "int" = none) (n_isinstance : mg "isinstance" = none) : Av P w K mg base "is_among" ["thing", "least", "most"] 1 G_is_among := by
  have nd := sc_is_among.nd
  obtain ⟨fa, fd, Fn, gl, bd⟩ := Fn
  refine ⟨fa, fd, fn_pure Fn sc_is_among rfl rfl (fun cdv A outer s H E hr => ?_), gl, Fn.kp, bd⟩
  exact (zOne (zRet (dAnd (dIs (k := "int") (by rfl) n_isinstance (by rfl) n_int boot_int (by decide) (dVar (pv 0))) (dAnd (dNot (dIs (k := "bool") (by rfl) n_isinstance (by rfl) n_bool boot_bool (by decide) (dVar (pv 0)))) (dOne (dChain opD_le opD_le (dVar (pv 1)) (dVar (pv 0)) (dVar (pv 2))))))))
theorem okx_need_number (Fn : DefAt K mg "need_number" s_need_number ["number", "most"]) (c_is_among : Av P w K mg base "is_among" ["thing", "least", "most"] 1 G_is_among) (e_BadNumber : ExcA K mg "BadNumber" (He.ga K "BadNumber")) : AvX P w K mg base "need_number" ["number", "most"] 2 X_need_number := by
  have nd := sc_need_number.nd
  obtain ⟨fa, fd, Fn, gl, bd⟩ := Fn
  refine ⟨fa, fd, fn_x Fn sc_need_number rfl rfl (fun cdv A outer s H E hr => ?_), gl, Fn.kp, bd⟩
  have tk : L2.Takes (cxOf (L2.CX P w) P w K mg base N_need_number "need_number" (defScope s_need_number) fa cdv A outer s H E) (fun cls d _ H => E cls d H) := takes_of rfl rfl rfl rfl
  exact (xOne (xIf (tNot_ (tVal_ (dCallA c_is_among (hr.mono (by decide)) (by rfl) (aCons_ (dVar (pv 0)) (aCons_ dInt (aCons_ (dVar (pv 1)) aNil_)))))) (xOne (xRaise rfl tk e_BadNumber.d PySem.F.excBase_ValueError e_BadNumber.i (by rfl))) xNil))
theorem okx_need_pose (Fn : DefAt K mg "need_pose" s_need_pose ["pose"]) (n_isinstance : mg "isinstance" = none) (n_str : mg "str" = none) (g_POSES : GloD K mg "POSES" d_POSES) (e_BadPose : ExcA K mg "BadPose" (He.ga K "BadPose")) : AvX P w K mg base "need_pose" ["pose"] 1 X_need_pose := by
  have nd := sc_need_pose.nd
  obtain ⟨fa, fd, Fn, gl, bd⟩ := Fn
  refine ⟨fa, fd, fn_x Fn sc_need_pose rfl rfl (fun cdv A outer s H E hr => ?_), gl, Fn.kp, bd⟩
  have tk : L2.Takes (cxOf (L2.CX P w) P w K mg base N_need_pose "need_pose" (defScope s_need_pose) fa cdv A outer s H E) (fun cls d _ H => E cls d H) := takes_of rfl rfl rfl rfl
  exact (xOne (xIf (L2.PW.pt (wOr (tNot_ (tVal_ (dIs (k := "str") (by rfl) n_isinstance (by rfl) n_str boot_str (by decide) (dVar (pv 0))))) (wOr1 (tCmp_ opD_notIn (dVar (pv 0)) (dGlo g_POSES (by rfl)) (by rfl))))) (xOne (xRaise rfl tk e_BadPose.d PySem.F.excBase_ValueError e_BadPose.i (by rfl))) xNil))
theorem okx_need_size (Fn : DefAt K mg "need_size" s_need_size ["size"]) (c_is_among : Av P w K mg base "is_among" ["thing", "least", "most"] 1 G_is_among) (g_MOST_SIZE : GloD K mg "MOST_SIZE" d_MOST_SIZE) (e_BadSize : ExcA K mg "BadSize" (He.ga K "BadSize")) : AvX P w K mg base "need_size" ["size"] 2 X_need_size := by
  have nd := sc_need_size.nd
  obtain ⟨fa, fd, Fn, gl, bd⟩ := Fn
  refine ⟨fa, fd, fn_x Fn sc_need_size rfl rfl (fun cdv A outer s H E hr => ?_), gl, Fn.kp, bd⟩
  have tk : L2.Takes (cxOf (L2.CX P w) P w K mg base N_need_size "need_size" (defScope s_need_size) fa cdv A outer s H E) (fun cls d _ H => E cls d H) := takes_of rfl rfl rfl rfl
  exact (xOne (xIf (tNot_ (tVal_ (dCallA c_is_among (hr.mono (by decide)) (by rfl) (aCons_ (dVar (pv 0)) (aCons_ dInt (aCons_ (dGlo g_MOST_SIZE (by rfl)) aNil_)))))) (xOne (xRaise rfl tk e_BadSize.d PySem.F.excBase_ValueError e_BadSize.i (by rfl))) xNil))
theorem okx_cell_at (Fn : DefAt K mg "cell_at" s_cell_at ["size", "pose", "number"]) (c_cells_of : Av P w K mg base "cells_of" ["level"] 1 G_cells_of) (c_come_to : Av P w K mg base "come_to" ["size", "pose", "number", "level"] 3 G_come_to) (x_need_number : AvX P w K mg base "need_number" ["number", "most"] 2 X_need_number) (x_need_pose : AvX P w K mg base "need_pose" ["pose"] 1 X_need_pose) (x_need_size : AvX P w K mg base "need_size" ["size"] 2 X_need_size) : AvX P w K mg base "cell_at" ["size", "pose", "number"] 4 X_cell_at := by
  have nd := sc_cell_at.nd
  obtain ⟨fa, fd, Fn, gl, bd⟩ := Fn
  refine ⟨fa, fd, fn_x Fn sc_cell_at rfl rfl (fun cdv A outer s H E hr => ?_), gl, Fn.kp, bd⟩
  have tk : L2.Takes (cxOf (L2.CX P w) P w K mg base N_cell_at "cell_at" (defScope s_cell_at) fa cdv A outer s H E) (fun cls d _ H => E cls d H) := takes_of rfl rfl rfl rfl
  exact (xSeq (xCall x_need_size (hr.mono (by decide)) (by rfl) tk (aCons_ (dVar (pv 0)) aNil_))
    (xSeq (xCall x_need_pose (hr.mono (by decide)) (by rfl) tk (aCons_ (dVar (pv 1)) aNil_))
    (xSeq (xCall x_need_number (hr.mono (by decide)) (by rfl) tk (aCons_ (dVar (pv 2)) (aCons_ (dOp opD_sub (dCallA c_cells_of (hr.mono (by decide)) (by rfl) (aCons_ (dVar (pv 0)) aNil_)) dInt) aNil_)))
    (xPures (zSeq (zAsg (dCallA c_come_to (hr.mono (by decide)) (by rfl) (aCons_ (dVar (pv 0)) (aCons_ (dVar (pv 1)) (aCons_ (dVar (pv 2)) (aCons_ dInt aNil_))))) (gTp_ rfl (gCons_ (pg_name (i := 3) nd rfl (by first | exact Or.inl rfl | exact Or.inr rfl)) (gCons_ (pg_name (i := 4) nd rfl (by first | exact Or.inl rfl | exact Or.inr rfl)) (gCons_ (pg_name (i := 5) nd rfl (by first | exact Or.inl rfl | exact Or.inr rfl)) gNil_)))))
    (zOne (zRet (dTup (aCons_ (dVar (pv 3)) (aCons_ (dVar (pv 4)) aNil_)))))) (nb_seq nb_asg nb_ret)))))
theorem okmR_here {fa : Addr} {fd : FuncData} (Fn : FunD K "here" "Stroll.here" (defArgs s_Stroll_here) (defBody s_Stroll_here) (defScope s_Stroll_here) [] [] fa fd) (M : Meth K (StC K) "here" fa) (bd : Binds K fd ["self"] []) (x_cell_at : AvX P w K mg base "cell_at" ["size", "pose", "number"] 4 X_cell_at) (SK : StK K) : AvMR P w K mg base "here" ["self"] 5 M_here := by
  have nd := sc_Stroll_here.nd
  refine ⟨fa, fd, M, fn_mR Fn sc_Stroll_here rfl rfl (fun cdv A outer s H E hr => ?_), bd⟩
  have tk : L2.Takes (cxOf (L2.CX P w) P w K mg base N_Stroll_here "Stroll.here" (defScope s_Stroll_here) fa cdv A outer s H E) (fun cls d _ H => E cls d H) := takes_of rfl rfl rfl rfl
  exact (xPures (zOne (zRet (eCallOk x_cell_at (hr.mono (by decide)) (by rfl) (aCons_ (dFld SK (pv 0) (by rfl)) (aCons_ (dFld SK (pv 0) (by rfl)) (aCons_ (dFld SK (pv 0) (by rfl)) aNil_)))))) nb_ret)
theorem okmR_ways {fa : Addr} {fd : FuncData} (Fn : FunD K "ways" "Stroll.ways" (defArgs s_Stroll_ways) (defBody s_Stroll_ways) (defScope s_Stroll_ways) [] [] fa fd) (M : Meth K (StC K) "ways" fa) (bd : Binds K fd ["self", "steps"] []) (c_cells_of : Av P w K mg base "cells_of" ["level"] 1 G_cells_of) (c_is_among : Av P w K mg base "is_among" ["thing", "least", "most"] 1 G_is_among) (x_cell_at : AvX P w K mg base "cell_at" ["size", "pose", "number"] 4 X_cell_at) (SK : StK K) (q_WAYS : mg "WAYS" = some (.ref (He.ga K "WAYS"))) (w_WAYS : WaysG K P w (He.ga K "WAYS") tab_WAYS) (mR_here : AvMR P w K mg base "here" ["self"] 5 M_here) (n_min : mg "min" = none) (n_range : mg "range" = none) (g_MOST_WAYS : GloD K mg "MOST_WAYS" d_MOST_WAYS) (e_BadNumber : ExcA K mg "BadNumber" (He.ga K "BadNumber")) : AvMR P w K mg base "ways" ["self", "steps"] 6 M_ways := by
  have nd := sc_Stroll_ways.nd
  refine ⟨fa, fd, M, fn_mR Fn sc_Stroll_ways rfl rfl (fun cdv A outer s H E hr => ?_), bd⟩
  have tk : L2.Takes (cxOf (L2.CX P w) P w K mg base N_Stroll_ways "Stroll.ways" (defScope s_Stroll_ways) fa cdv A outer s H E) (fun cls d _ H => E cls d H) := takes_of rfl rfl rfl rfl
  exact (xSeq (xIf (tNot_ (tVal_ (dCallA c_is_among (hr.mono (by decide)) (by rfl) (aCons_ (dVar (pv 1)) (aCons_ dInt (aCons_ (dGlo g_MOST_WAYS (by rfl)) aNil_)))))) (xOne (xRaise rfl tk e_BadNumber.d PySem.F.excBase_ValueError e_BadNumber.i (by rfl))) xNil)
    (xPures (zSeq (zOwn (ps_set (i := 2) nd rfl (by first | exact Or.inl rfl | exact Or.inr rfl) (pe_lst aNil_)))
    (zSeq (zSet (ps_set (i := 3) nd rfl (by first | exact Or.inl rfl | exact Or.inr rfl) (dMeth0 SK mR_here (hr.mono (by decide)) (pv 0) (by decide))))
    (zSeq (zFor PassesOwn.never rfl (wRngW (by rfl) n_range (dOp opD_add (dFld SK (pv 0) (by rfl)) dInt) (dOp opD_add (dCB (callD_min2 rfl) (by rfl) n_min (by decide +kernel) (aCons_ (dOp opD_add (dFld SK (pv 0) (by rfl)) (dVar (pv 1))) (aCons_ (dOp opD_sub (dCallA c_cells_of (hr.mono (by decide)) (by rfl) (aCons_ (dFld SK (pv 0) (by rfl)) aNil_)) dInt) aNil_))) dInt)) (gNm_ (pg_name (i := 4) nd rfl (by first | exact Or.inl rfl | exact Or.inr rfl))) (zSeq (zSet (ps_set (i := 5) nd rfl (by first | exact Or.inl rfl | exact Or.inr rfl) (eCallOk x_cell_at (hr.mono (by decide)) (by rfl) (aCons_ (dFld SK (pv 0) (by rfl)) (aCons_ (dFld SK (pv 0) (by rfl)) (aCons_ (dVar (pv 4)) aNil_))))))
    (zSeq (zDropM (dApp (pv 2) (dWayG (hu14 hr) (by rfl) q_WAYS w_WAYS (dTup (aCons_ (dOp opD_sub (dIx (dVar (pv 5)) dInt) (dIx (dVar (pv 3)) dInt)) (aCons_ (dOp opD_sub (dIx (dVar (pv 5)) dInt) (dIx (dVar (pv 3)) dInt)) aNil_))) (fun _ _ => rfl))))
    (zOne (zSet (ps_set (i := 3) nd rfl (by first | exact Or.inl rfl | exact Or.inr rfl) (dVar (pv 5))))))))
    (zOne (zRetO (pv 2)))))) (nb_seq nb_own (nb_seq nb_asg (nb_seq (nb_for (F := B_Stroll_ways_1) (nb_seq nb_asg (nb_seq nb_dropM nb_asg))) nb_retO)))))
theorem okmO_ways {fa : Addr} {fd : FuncData} (Fn : FunD K "ways" "Stroll.ways" (defArgs s_Stroll_ways) (defBody s_Stroll_ways) (defScope s_Stroll_ways) [] [] fa fd) (M : Meth K (StC K) "ways" fa) (bd : Binds K fd ["self", "steps"] []) (c_cells_of : Av P w K mg base "cells_of" ["level"] 1 G_cells_of) (c_is_among : Av P w K mg base "is_among" ["thing", "least", "most"] 1 G_is_among) (x_cell_at : AvX P w K mg base "cell_at" ["size", "pose", "number"] 4 X_cell_at) (SK : StK K) (q_WAYS : mg "WAYS" = some (.ref (He.ga K "WAYS"))) (w_WAYS : WaysG K P w (He.ga K "WAYS") tab_WAYS) (mR_here : AvMR P w K mg base "here" ["self"] 5 M_here) (n_min : mg "min" = none) (n_range : mg "range" = none) (g_MOST_WAYS : GloD K mg "MOST_WAYS" d_MOST_WAYS) (e_BadNumber : ExcA K mg "BadNumber" (He.ga K "BadNumber")) : AvMO P w K mg base "ways" ["self", "steps"] 6 MO_ways := by
  have nd := sc_Stroll_ways.nd
  refine ⟨fa, fd, M, fn_mO Fn sc_Stroll_ways rfl rfl (fun cdv A outer s H E hr => ?_), bd⟩
  have tk : L2.Takes (cxOf (L2.CX P w) P w K mg base N_Stroll_ways "Stroll.ways" (defScope s_Stroll_ways) fa cdv A outer s H E) (fun cls d _ H => E cls d H) := takes_of rfl rfl rfl rfl
  exact (xSeq (xIf (tNot_ (tVal_ (dCallA c_is_among (hr.mono (by decide)) (by rfl) (aCons_ (dVar (pv 1)) (aCons_ dInt (aCons_ (dGlo g_MOST_WAYS (by rfl)) aNil_)))))) (xOne (xRaise rfl tk e_BadNumber.d PySem.F.excBase_ValueError e_BadNumber.i (by rfl))) xNil)
    (xPures (zSeq (zOwn (ps_set (i := 2) nd rfl (by first | exact Or.inl rfl | exact Or.inr rfl) (pe_lst aNil_)))
    (zSeq (zSet (ps_set (i := 3) nd rfl (by first | exact Or.inl rfl | exact Or.inr rfl) (dMeth0 SK mR_here (hr.mono (by decide)) (pv 0) (by decide))))
    (zSeq (zFor PassesOwn.never rfl (wRngW (by rfl) n_range (dOp opD_add (dFld SK (pv 0) (by rfl)) dInt) (dOp opD_add (dCB (callD_min2 rfl) (by rfl) n_min (by decide +kernel) (aCons_ (dOp opD_add (dFld SK (pv 0) (by rfl)) (dVar (pv 1))) (aCons_ (dOp opD_sub (dCallA c_cells_of (hr.mono (by decide)) (by rfl) (aCons_ (dFld SK (pv 0) (by rfl)) aNil_)) dInt) aNil_))) dInt)) (gNm_ (pg_name (i := 4) nd rfl (by first | exact Or.inl rfl | exact Or.inr rfl))) (zSeq (zSet (ps_set (i := 5) nd rfl (by first | exact Or.inl rfl | exact Or.inr rfl) (eCallOk x_cell_at (hr.mono (by decide)) (by rfl) (aCons_ (dFld SK (pv 0) (by rfl)) (aCons_ (dFld SK (pv 0) (by rfl)) (aCons_ (dVar (pv 4)) aNil_))))))
    (zSeq (zDropM (dApp (pv 2) (dWayG (hu14 hr) (by rfl) q_WAYS w_WAYS (dTup (aCons_ (dOp opD_sub (dIx (dVar (pv 5)) dInt) (dIx (dVar (pv 3)) dInt)) (aCons_ (dOp opD_sub (dIx (dVar (pv 5)) dInt) (dIx (dVar (pv 3)) dInt)) aNil_))) (fun _ _ => rfl))))
    (zOne (zSet (ps_set (i := 3) nd rfl (by first | exact Or.inl rfl | exact Or.inr rfl) (dVar (pv 5))))))))
    (zOne (zRetO (pv 2)))))) (nb_seq nb_own (nb_seq nb_asg (nb_seq (nb_for (F := B_Stroll_ways_1) (nb_seq nb_asg (nb_seq nb_dropM nb_asg))) nb_retO)))))
theorem ok_law_many (Fn : DefAt K mg "_law_many" s_law_many ["_law_level"])  : Av P w K mg base "_law_many" ["_law_level"] 1 G_law_many := by
  have nd := sc_law_many.nd
  obtain ⟨fa, fd, Fn, gl, bd⟩ := Fn
  refine ⟨fa, fd, fn_pure Fn sc_law_many rfl rfl (fun cdv A outer s H E hr => ?_), gl, Fn.kp, bd⟩
  exact (zOne (zRet (dOp opD_shl dInt (dOp opD_mul dInt (dVar (pv 0))))))
theorem ok_law_mixed (Fn : DefAt K mg "_law_mixed" s_law_mixed ["_law_cell", "_law_k"])  : Av P w K mg base "_law_mixed" ["_law_cell", "_law_k"] 1 G_law_mixed := by
  have nd := sc_law_mixed.nd
  obtain ⟨fa, fd, Fn, gl, bd⟩ := Fn
  refine ⟨fa, fd, fn_pure Fn sc_law_mixed rfl rfl (fun cdv A outer s H E hr => ?_), gl, Fn.kp, bd⟩
  exact (zSeq (zSet (ps_set (i := 2) nd rfl (by first | exact Or.inl rfl | exact Or.inr rfl) (dOp opD_mod (dOp opD_add (dOp opD_add (dOp opD_mod (dVar (pv 0)) dInt) (dOp opD_mul dInt (dVar (pv 1)))) dInt) dInt)))
    (zOne (zRet (dOp opD_mod (dOp opD_mul (dOp opD_mod (dOp opD_mul (dVar (pv 2)) (dVar (pv 2))) dInt) (dVar (pv 2))) dInt))))
theorem okmR_go {fa : Addr} {fd : FuncData} (Fn : FunD K "go" "Stroll.go" (defArgs s_Stroll_go) (defBody s_Stroll_go) (defScope s_Stroll_go) [] [] fa fd) (M : Meth K (StC K) "go" fa) (bd : Binds K fd ["self", "steps"] []) (c_cells_of : Av P w K mg base "cells_of" ["level"] 1 G_cells_of) (SK : StK K) (n_bool : mg "bool" = none) (n_int : mg "int" = none) (n_isinstance : mg "isinstance" = none) (e_BadNumber : ExcA K mg "BadNumber" (He.ga K "BadNumber")) : AvMR P w K mg base "go" ["self", "steps"] 2 M_go := by
  have nd := sc_Stroll_go.nd
  refine ⟨fa, fd, M, fn_mR Fn sc_Stroll_go rfl rfl (fun cdv A outer s H E hr => ?_), bd⟩
  have tk : L2.Takes (cxOf (L2.CX P w) P w K mg base N_Stroll_go "Stroll.go" (defScope s_Stroll_go) fa cdv A outer s H E) (fun cls d _ H => E cls d H) := takes_of rfl rfl rfl rfl
  exact (xSeq (xIf (L2.PW.pt (wOr (tNot_ (tVal_ (dIs (k := "int") (by rfl) n_isinstance (by rfl) n_int boot_int (by decide) (dVar (pv 1))))) (wOr1 (tVal_ (dIs (k := "bool") (by rfl) n_isinstance (by rfl) n_bool boot_bool (by decide) (dVar (pv 1))))))) (xOne (xRaise rfl tk e_BadNumber.d PySem.F.excBase_ValueError e_BadNumber.i (by rfl))) xNil)
    (xSeq (xIf (tNot_ (tChain_ opD_le opD_lt dInt (dOp opD_add (dFld SK (pv 0) (by rfl)) (dVar (pv 1))) (dCallA c_cells_of (hr.mono (by decide)) (by rfl) (aCons_ (dFld SK (pv 0) (by rfl)) aNil_)))) (xOne (xRaise rfl tk e_BadNumber.d PySem.F.excBase_ValueError e_BadNumber.i (by rfl))) xNil)
    (xPures (zOne (zPutFld SK (pv 0) (by rfl) (dOp opD_add (dFld SK (pv 0) (by rfl)) (dVar (pv 1))))) nb_putFld)))
theorem okmW_go {fa : Addr} {fd : FuncData} (Fn : FunD K "go" "Stroll.go" (defArgs s_Stroll_go) (defBody s_Stroll_go) (defScope s_Stroll_go) [] [] fa fd) (M : Meth K (StC K) "go" fa) (bd : Binds K fd ["self", "steps"] []) (c_cells_of : Av P w K mg base "cells_of" ["level"] 1 G_cells_of) (SK : StK K) (n_bool : mg "bool" = none) (n_int : mg "int" = none) (n_isinstance : mg "isinstance" = none) (e_BadNumber : ExcA K mg "BadNumber" (He.ga K "BadNumber")) : AvMW P w K mg base "go" ["self", "steps"] 2 MW_go := by
  have nd := sc_Stroll_go.nd
  refine ⟨fa, fd, M, fn_mW Fn sc_Stroll_go rfl rfl (fun cdv A outer s H E hr => ?_), bd⟩
  have tk : L2.Takes (cxOf (L2.CX P w) P w K mg base N_Stroll_go "Stroll.go" (defScope s_Stroll_go) fa cdv A outer s H E) (fun cls d _ H => E cls d H) := takes_of rfl rfl rfl rfl
  exact (xSeq (xIf (L2.PW.pt (wOr (tNot_ (tVal_ (dIs (k := "int") (by rfl) n_isinstance (by rfl) n_int boot_int (by decide) (dVar (pv 1))))) (wOr1 (tVal_ (dIs (k := "bool") (by rfl) n_isinstance (by rfl) n_bool boot_bool (by decide) (dVar (pv 1))))))) (xOne (xRaise rfl tk e_BadNumber.d PySem.F.excBase_ValueError e_BadNumber.i (by rfl))) xNil)
    (xSeq (xIf (tNot_ (tChain_ opD_le opD_lt dInt (dOp opD_add (dFld SK (pv 0) (by rfl)) (dVar (pv 1))) (dCallA c_cells_of (hr.mono (by decide)) (by rfl) (aCons_ (dFld SK (pv 0) (by rfl)) aNil_)))) (xOne (xRaise rfl tk e_BadNumber.d PySem.F.excBase_ValueError e_BadNumber.i (by rfl))) xNil)
    (xPures (zOne (zPutFld SK (pv 0) (by rfl) (dOp opD_add (dFld SK (pv 0) (by rfl)) (dVar (pv 1))))) nb_putFld)))
theorem ok_found_at (Fn : DefAt K mg "found_at" s_found_at ["size", "pose", "cell", "level"]) (c_quarter : Av P w K mg base "quarter" ["pose", "digit"] 2 G_quarter) (n_range : mg "range" = none) (n_reversed : mg "reversed" = none) : Av P w K mg base "found_at" ["size", "pose", "cell", "level"] 3 G_found_at := by
  have nd := sc_found_at.nd
  obtain ⟨fa, fd, Fn, gl, bd⟩ := Fn
  refine ⟨fa, fd, fn_pure Fn sc_found_at rfl rfl (fun cdv A outer s H E hr => ?_), gl, Fn.kp, bd⟩
  exact (zSeq (zSet (ps_set (i := 4) nd rfl (by first | exact Or.inl rfl | exact Or.inr rfl) dInt))
    (zSeq (zSet (ps_set (i := 5) nd rfl (by first | exact Or.inl rfl | exact Or.inr rfl) (dVar (pv 1))))
    (zSeq (zFor PassesOwn.never rfl (wRev2 (by rfl) n_reversed (by rfl) n_range (dVar (pv 3)) (dVar (pv 0))) (gNm_ (pg_name (i := 6) nd rfl (by first | exact Or.inl rfl | exact Or.inr rfl))) (zSeq (zSet (ps_set (i := 7) nd rfl (by first | exact Or.inl rfl | exact Or.inr rfl) (dTup (aCons_ (dOp opD_and (dOp opD_shr (dIx (dVar (pv 2)) dInt) (dVar (pv 6))) dInt) (aCons_ (dOp opD_and (dOp opD_shr (dIx (dVar (pv 2)) dInt) (dVar (pv 6))) dInt) aNil_)))))
    (zOne (zFor PassesOwn.never rfl (wRng1 (by rfl) n_range dInt) (gNm_ (pg_name (i := 8) nd rfl (by first | exact Or.inl rfl | exact Or.inr rfl))) (zSeq (zAsg (dCallA c_quarter (hr.mono (by decide)) (by rfl) (aCons_ (dVar (pv 5)) (aCons_ (dVar (pv 8)) aNil_))) (gTp_ rfl (gCons_ (pg_name (i := 9) nd rfl (by first | exact Or.inl rfl | exact Or.inr rfl)) (gCons_ (pg_name (i := 10) nd rfl (by first | exact Or.inl rfl | exact Or.inr rfl)) (gCons_ (pg_name (i := 11) nd rfl (by first | exact Or.inl rfl | exact Or.inr rfl)) gNil_)))))
    (zOne (zIf (tCmp_ (opD_eq hr.units) (dTup (aCons_ (dVar (pv 10)) (aCons_ (dVar (pv 11)) aNil_))) (dVar (pv 7)) (nomark _)) (zSeq (zSet (ps_set (i := 4) nd rfl (by first | exact Or.inl rfl | exact Or.inr rfl) (dOp opD_add (dOp opD_mul dInt (dVar (pv 4))) (dVar (pv 8)))))
    (zSeq (zSet (ps_set (i := 5) nd rfl (by first | exact Or.inl rfl | exact Or.inr rfl) (dVar (pv 9))))
    (zOne zBreak))) zNil)))))))
    (zOne (zRet (dTup (aCons_ (dVar (pv 4)) (aCons_ (dVar (pv 5)) aNil_))))))))
theorem ok_is_cell (Fn : DefAt K mg "is_cell" s_is_cell ["size", "thing"]) (c_is_among : Av P w K mg base "is_among" ["thing", "least", "most"] 1 G_is_among) (n_isinstance : mg "isinstance" = none) (n_len : mg "len" = none) (n_tuple : mg "tuple" = none) : Av P w K mg base "is_cell" ["size", "thing"] 2 G_is_cell := by
  have nd := sc_is_cell.nd
  obtain ⟨fa, fd, Fn, gl, bd⟩ := Fn
  refine ⟨fa, fd, fn_pure Fn sc_is_cell rfl rfl (fun cdv A outer s H E hr => ?_), gl, Fn.kp, bd⟩
  exact (zSeq (zIf (L2.PW.pt (wOr (tNot_ (tVal_ (dIs (k := "tuple") (by rfl) n_isinstance (by rfl) n_tuple boot_tuple (by decide) (dVar (pv 1))))) (wOr1 (tCmp_ (opD_ne hr.units) (dCB callD_len (by rfl) n_len (by decide +kernel) (aCons_ (dVar (pv 1)) aNil_)) dInt (nomark _))))) (zOne (zRet dBl)) zNil)
    (zSeq (zSet (ps_set (i := 2) nd rfl (by first | exact Or.inl rfl | exact Or.inr rfl) (dOp opD_sub (dOp opD_shl dInt (dVar (pv 0))) dInt)))
    (zOne (zRet (dAnd (dCallA c_is_among (hr.mono (by decide)) (by rfl) (aCons_ (dIx (dVar (pv 1)) dInt) (aCons_ dInt (aCons_ (dVar (pv 2)) aNil_)))) (dOne (dCallA c_is_among (hr.mono (by decide)) (by rfl) (aCons_ (dIx (dVar (pv 1)) dInt) (aCons_ dInt (aCons_ (dVar (pv 2)) aNil_))))))))))
theorem okx_need_cell (Fn : DefAt K mg "need_cell" s_need_cell ["size", "cell"]) (c_is_cell : Av P w K mg base "is_cell" ["size", "thing"] 2 G_is_cell) (e_BadCell : ExcA K mg "BadCell" (He.ga K "BadCell")) : AvX P w K mg base "need_cell" ["size", "cell"] 3 X_need_cell := by
  have nd := sc_need_cell.nd
  obtain ⟨fa, fd, Fn, gl, bd⟩ := Fn
  refine ⟨fa, fd, fn_x Fn sc_need_cell rfl rfl (fun cdv A outer s H E hr => ?_), gl, Fn.kp, bd⟩
  have tk : L2.Takes (cxOf (L2.CX P w) P w K mg base N_need_cell "need_cell" (defScope s_need_cell) fa cdv A outer s H E) (fun cls d _ H => E cls d H) := takes_of rfl rfl rfl rfl
  exact (xOne (xIf (tNot_ (tVal_ (dCallA c_is_cell (hr.mono (by decide)) (by rfl) (aCons_ (dVar (pv 0)) (aCons_ (dVar (pv 1)) aNil_))))) (xOne (xRaise rfl tk e_BadCell.d PySem.F.excBase_ValueError e_BadCell.i (by rfl))) xNil))
theorem okx_number_of (Fn : DefAt K mg "number_of" s_number_of ["size", "pose", "cell"]) (c_found_at : Av P w K mg base "found_at" ["size", "pose", "cell", "level"] 3 G_found_at) (x_need_cell : AvX P w K mg base "need_cell" ["size", "cell"] 3 X_need_cell) (x_need_pose : AvX P w K mg base "need_pose" ["pose"] 1 X_need_pose) (x_need_size : AvX P w K mg base "need_size" ["size"] 2 X_need_size) : AvX P w K mg base "number_of" ["size", "pose", "cell"] 4 X_number_of := by
  have nd := sc_number_of.nd
  obtain ⟨fa, fd, Fn, gl, bd⟩ := Fn
  refine ⟨fa, fd, fn_x Fn sc_number_of rfl rfl (fun cdv A outer s H E hr => ?_), gl, Fn.kp, bd⟩
  have tk : L2.Takes (cxOf (L2.CX P w) P w K mg base N_number_of "number_of" (defScope s_number_of) fa cdv A outer s H E) (fun cls d _ H => E cls d H) := takes_of rfl rfl rfl rfl
  exact (xSeq (xCall x_need_size (hr.mono (by decide)) (by rfl) tk (aCons_ (dVar (pv 0)) aNil_))
    (xSeq (xCall x_need_pose (hr.mono (by decide)) (by rfl) tk (aCons_ (dVar (pv 1)) aNil_))
    (xSeq (xCall x_need_cell (hr.mono (by decide)) (by rfl) tk (aCons_ (dVar (pv 0)) (aCons_ (dVar (pv 2)) aNil_)))
    (xPures (zOne (zRet (dIx (dCallA c_found_at (hr.mono (by decide)) (by rfl) (aCons_ (dVar (pv 0)) (aCons_ (dVar (pv 1)) (aCons_ (dVar (pv 2)) (aCons_ dInt aNil_))))) dInt))) nb_ret))))
theorem okmR_to {fa : Addr} {fd : FuncData} (Fn : FunD K "to" "Stroll.to" (defArgs s_Stroll_to) (defBody s_Stroll_to) (defScope s_Stroll_to) [] [] fa fd) (M : Meth K (StC K) "to" fa) (bd : Binds K fd ["self", "cell"] []) (x_number_of : AvX P w K mg base "number_of" ["size", "pose", "cell"] 4 X_number_of) (SK : StK K) : AvMR P w K mg base "to" ["self", "cell"] 5 M_to := by
  have nd := sc_Stroll_to.nd
  refine ⟨fa, fd, M, fn_mR Fn sc_Stroll_to rfl rfl (fun cdv A outer s H E hr => ?_), bd⟩
  have tk : L2.Takes (cxOf (L2.CX P w) P w K mg base N_Stroll_to "Stroll.to" (defScope s_Stroll_to) fa cdv A outer s H E) (fun cls d _ H => E cls d H) := takes_of rfl rfl rfl rfl
  exact (xOne (xPutFldX SK (pv 0) (by rfl) (eCallX x_number_of (hr.mono (by decide)) (by rfl) tk (aCons_ (dFld SK (pv 0) (by rfl)) (aCons_ (dFld SK (pv 0) (by rfl)) (aCons_ (dVar (pv 1)) aNil_))))))
theorem okmW_to {fa : Addr} {fd : FuncData} (Fn : FunD K "to" "Stroll.to" (defArgs s_Stroll_to) (defBody s_Stroll_to) (defScope s_Stroll_to) [] [] fa fd) (M : Meth K (StC K) "to" fa) (bd : Binds K fd ["self", "cell"] []) (x_number_of : AvX P w K mg base "number_of" ["size", "pose", "cell"] 4 X_number_of) (SK : StK K) : AvMW P w K mg base "to" ["self", "cell"] 5 MW_to := by
  have nd := sc_Stroll_to.nd
  refine ⟨fa, fd, M, fn_mW Fn sc_Stroll_to rfl rfl (fun cdv A outer s H E hr => ?_), bd⟩
  have tk : L2.Takes (cxOf (L2.CX P w) P w K mg base N_Stroll_to "Stroll.to" (defScope s_Stroll_to) fa cdv A outer s H E) (fun cls d _ H => E cls d H) := takes_of rfl rfl rfl rfl
  exact (xOne (xPutFldX SK (pv 0) (by rfl) (eCallX x_number_of (hr.mono (by decide)) (by rfl) tk (aCons_ (dFld SK (pv 0) (by rfl)) (aCons_ (dFld SK (pv 0) (by rfl)) (aCons_ (dVar (pv 1)) aNil_))))))
theorem ok_law_among (Fn : DefAt K mg "_law_among" s_law_among ["_law_cell", "_law_k", "_law_beyond"]) (c_law_mixed : Av P w K mg base "_law_mixed" ["_law_cell", "_law_k"] 1 G_law_mixed) : Av P w K mg base "_law_among" ["_law_cell", "_law_k", "_law_beyond"] 2 G_law_among := by
  have nd := sc_law_among.nd
  obtain ⟨fa, fd, Fn, gl, bd⟩ := Fn
  refine ⟨fa, fd, fn_pure Fn sc_law_among rfl rfl (fun cdv A outer s H E hr => ?_), gl, Fn.kp, bd⟩
  exact (zSeq (zSet (ps_set (i := 3) nd rfl (by first | exact Or.inl rfl | exact Or.inr rfl) (dCallA c_law_mixed (hr.mono (by decide)) (by rfl) (aCons_ (dVar (pv 0)) (aCons_ (dVar (pv 1)) aNil_)))))
    (zSeq (zSet (ps_set (i := 4) nd rfl (by first | exact Or.inl rfl | exact Or.inr rfl) (dOp opD_add (dOp opD_add (dOp opD_mul (dOp opD_mod (dVar (pv 0)) (dOp opD_pow dInt dInt)) (dOp opD_pow dInt dInt)) (dOp opD_mul (dVar (pv 3)) (dOp opD_pow dInt dInt))) (dCallA c_law_mixed (hr.mono (by decide)) (by rfl) (aCons_ (dVar (pv 0)) (aCons_ (dOp opD_add (dVar (pv 1)) dInt) aNil_))))))
    (zOne (zRet (dIx (dLst (aCons_ dInt (aCons_ (dOp opD_sub (dVar (pv 2)) dInt) (aCons_ (dOp opD_div (dVar (pv 2)) dInt) (aCons_ (dOp opD_mod (dVar (pv 4)) (dVar (pv 2))) (aCons_ (dOp opD_mod (dVar (pv 4)) (dVar (pv 2))) (aCons_ (dOp opD_mod (dVar (pv 0)) (dVar (pv 2))) aNil_))))))) (dOp opD_mod (dOp opD_div (dVar (pv 3)) dInt) dInt))))))
theorem ok_law_laid (Fn : DefAt K mg "_law_laid" s_law_laid ["_law_pose_here", "_law_side_here", "_law_x", "_law_y"])  : Av P w K mg base "_law_laid" ["_law_pose_here", "_law_side_here", "_law_x", "_law_y"] 1 G_law_laid := by
  have nd := sc_law_laid.nd
  obtain ⟨fa, fd, Fn, gl, bd⟩ := Fn
  refine ⟨fa, fd, fn_pure Fn sc_law_laid rfl rfl (fun cdv A outer s H E hr => ?_), gl, Fn.kp, bd⟩
  exact (zSeq (zSet (ps_set (i := 4) nd rfl (by first | exact Or.inl rfl | exact Or.inr rfl) (dOp opD_sub (dVar (pv 1)) dInt)))
    (zOne (zRet (dDix (hu_of hr) (ppCons (dTup (aCons_ (dVar (pv 2)) (aCons_ (dVar (pv 3)) aNil_))) (ppCons (dTup (aCons_ (dVar (pv 3)) (aCons_ (dVar (pv 2)) aNil_))) (ppCons (dTup (aCons_ (dOp opD_sub (dVar (pv 4)) (dVar (pv 3))) (aCons_ (dOp opD_sub (dVar (pv 4)) (dVar (pv 2))) aNil_))) (ppCons (dTup (aCons_ (dOp opD_sub (dVar (pv 4)) (dVar (pv 2))) (aCons_ (dOp opD_sub (dVar (pv 4)) (dVar (pv 3))) aNil_))) ppNil)))) (dVar (pv 0))))))
theorem ok_law_side (Fn : DefAt K mg "_law_side" s_law_side ["_law_level"])  : Av P w K mg base "_law_side" ["_law_level"] 1 G_law_side := by
  have nd := sc_law_side.nd
  obtain ⟨fa, fd, Fn, gl, bd⟩ := Fn
  refine ⟨fa, fd, fn_pure Fn sc_law_side rfl rfl (fun cdv A outer s H E hr => ?_), gl, Fn.kp, bd⟩
  exact (zOne (zRet (dOp opD_shl dInt (dVar (pv 0)))))
theorem ok_law_numbered (Fn : DefAt K mg "_law_numbered" s_law_numbered ["_law_size_here", "_law_pose_here", "_law_cell"]) (c_law_laid : Av P w K mg base "_law_laid" ["_law_pose_here", "_law_side_here", "_law_x", "_law_y"] 1 G_law_laid) (c_law_side : Av P w K mg base "_law_side" ["_law_level"] 1 G_law_side) (n_int : mg "int" = none) (n_range : mg "range" = none) : Av P w K mg base "_law_numbered" ["_law_size_here", "_law_pose_here", "_law_cell"] 2 G_law_numbered := by
  have nd := sc_law_numbered.nd
  obtain ⟨fa, fd, Fn, gl, bd⟩ := Fn
  refine ⟨fa, fd, fn_pure Fn sc_law_numbered rfl rfl (fun cdv A outer s H E hr => ?_), gl, Fn.kp, bd⟩
  exact (zSeq (zAsg (dCallA c_law_laid (hr.mono (by decide)) (by rfl) (aCons_ (dVar (pv 1)) (aCons_ (dCallA c_law_side (hr.mono (by decide)) (by rfl) (aCons_ (dVar (pv 0)) aNil_)) (aCons_ (dIx (dVar (pv 2)) dInt) (aCons_ (dIx (dVar (pv 2)) dInt) aNil_))))) (gTp_ rfl (gCons_ (pg_name (i := 3) nd rfl (by first | exact Or.inl rfl | exact Or.inr rfl)) (gCons_ (pg_name (i := 4) nd rfl (by first | exact Or.inl rfl | exact Or.inr rfl)) gNil_))))
    (zSeq (zSet (ps_set (i := 5) nd rfl (by first | exact Or.inl rfl | exact Or.inr rfl) dInt))
    (zSeq (zFor PassesOwn.never rfl (wRngDn (by rfl) n_range (dOp opD_sub (dVar (pv 0)) dInt) (dNeg dInt)) (gNm_ (pg_name (i := 6) nd rfl (by first | exact Or.inl rfl | exact Or.inr rfl))) (zSeq (zSet (ps_set (i := 7) nd rfl (by first | exact Or.inl rfl | exact Or.inr rfl) (dCallA c_law_side (hr.mono (by decide)) (by rfl) (aCons_ (dVar (pv 6)) aNil_))))
    (zSeq (zIf (tCmp_ opD_ge (dVar (pv 4)) (dVar (pv 7)) (nomark _)) (zSeq (zSet (ps_set (i := 8) nd rfl (by first | exact Or.inl rfl | exact Or.inr rfl) (dOp opD_add dInt (dCT callD_int (by rfl) n_int (by decide +kernel) (aCons_ (dCmp opD_ge (dVar (pv 3)) (dVar (pv 7)) (nomark _)) aNil_)))))
    (zOne (zPar (ps_par (i := 3) (j := 4) rfl nd rfl rfl (by decide) rfl rfl (aCons_ (dOp opD_mod (dVar (pv 3)) (dVar (pv 7))) (aCons_ (dOp opD_sub (dVar (pv 4)) (dVar (pv 7))) aNil_)) (by rfl))))) (zOne (zIf (tCmp_ opD_lt (dVar (pv 3)) (dVar (pv 7)) (nomark _)) (zSeq (zSet (ps_set (i := 8) nd rfl (by first | exact Or.inl rfl | exact Or.inr rfl) dInt))
    (zOne (zPar (ps_par (i := 3) (j := 4) rfl nd rfl rfl (by decide) rfl rfl (aCons_ (dVar (pv 4)) (aCons_ (dVar (pv 3)) aNil_)) (by rfl))))) (zSeq (zSet (ps_set (i := 8) nd rfl (by first | exact Or.inl rfl | exact Or.inr rfl) dInt))
    (zOne (zPar (ps_par (i := 3) (j := 4) rfl nd rfl rfl (by decide) rfl rfl (aCons_ (dOp opD_sub (dOp opD_sub (dVar (pv 7)) dInt) (dVar (pv 4))) (aCons_ (dOp opD_sub (dOp opD_sub (dOp opD_mul dInt (dVar (pv 7))) dInt) (dVar (pv 3))) aNil_)) (by rfl))))))))
    (zOne (zSet (ps_set (i := 5) nd rfl (by first | exact Or.inl rfl | exact Or.inr rfl) (dOp opD_add (dOp opD_mul dInt (dVar (pv 5))) (dVar (pv 8)))))))))
    (zOne (zRet (dVar (pv 5)))))))
theorem okb_moved (Fn : DefAt K mg "_law_moved" s_law_moved ["_law_stroll", "_law_own", "_law_cell", "_law_number"]) (c_law_among : Av P w K mg base "_law_among" ["_law_cell", "_law_k", "_law_beyond"] 2 G_law_among) (c_law_many : Av P w K mg base "_law_many" ["_law_level"] 1 G_law_many) (c_law_numbered : Av P w K mg base "_law_numbered" ["_law_size_here", "_law_pose_here", "_law_cell"] 2 G_law_numbered) (c_law_side : Av P w K mg base "_law_side" ["_law_level"] 1 G_law_side) (SK : StK K) (mW_go : AvMW P w K mg base "go" ["self", "steps"] 2 MW_go) (mW_to : AvMW P w K mg base "to" ["self", "cell"] 5 MW_to) (n_max : mg "max" = none) (n_min : mg "min" = none) : AvBW P w K mg base "_law_moved" ["_law_stroll", "_law_own", "_law_cell", "_law_number"] 6 MB_law_moved := by
  have nd := sc_law_moved.nd
  obtain ⟨fa, fd, Fn, gl, bd⟩ := Fn
  refine ⟨fa, fd, fn_bW Fn sc_law_moved rfl rfl (fun cdv A outer s H E hr => ?_), gl, Fn.kp, bd⟩
  exact (bCons (bLift (zSet (ps_set (i := 4) nd rfl (by first | exact Or.inl rfl | exact Or.inr rfl) (dCallA c_law_many (hr.mono (by decide)) (by rfl) (aCons_ (dBoxIx (pv 1) dInt) aNil_)))))
    (bCons (bIf_ (tCmp_ opD_lt (dOp opD_mod (dVar (pv 3)) dInt) dInt (nomark _)) (bCons (bLift (zSet (ps_set (i := 6) nd rfl (by first | exact Or.inl rfl | exact Or.inr rfl) (dIx (dLst (aCons_ (dCallA c_law_among (hr.mono (by decide)) (by rfl) (aCons_ (dVar (pv 2)) (aCons_ dInt (aCons_ (dVar (pv 4)) aNil_)))) (aCons_ dInt (aCons_ (dOp opD_sub (dVar (pv 4)) dInt) (aCons_ (dCB (callD_min2 rfl) (by rfl) n_min (by decide +kernel) (aCons_ (dOp opD_sub (dVar (pv 4)) dInt) (aCons_ (dOp opD_add (dBoxIx (pv 1) dInt) (dOp opD_mod (dOp opD_div (dVar (pv 3)) dInt) dInt)) aNil_))) aNil_))))) (dOp opD_mod (dOp opD_div (dVar (pv 3)) dInt) dInt)))))
    (bCons (bLift (zSet (ps_set (i := 6) nd rfl (by first | exact Or.inl rfl | exact Or.inr rfl) (dIx (dLst (aCons_ (dVar (pv 6)) (aCons_ (dCB (callD_max2 rfl) (by rfl) n_max (by decide +kernel) (aCons_ dInt (aCons_ (dOp opD_sub (dBoxIx (pv 1) dInt) (dOp opD_mod (dOp opD_div (dVar (pv 3)) dInt) dInt)) aNil_))) aNil_))) (dOp opD_mod (dVar (pv 3)) dInt)))))
    (bCons (bLift (zSet (ps_set (i := 7) nd rfl (by first | exact Or.inl rfl | exact Or.inr rfl) (dOp opD_sub (dVar (pv 6)) (dBoxIx (pv 1) dInt)))))
    (bCons (bLift (zPutBox (dVar (pv 6)) (pv 1) dInt))
    (bOne (bRetM_ (dIsNoneM (dMethW SK mW_go (hr.mono (by decide)) (pv 0) (by decide) (aCons_ (dVar (pv 7)) aNil_))))))))) bNil)
    (bCons (bLift (zSet (ps_set (i := 5) nd rfl (by first | exact Or.inl rfl | exact Or.inr rfl) (dTup (aCons_ (dCallA c_law_among (hr.mono (by decide)) (by rfl) (aCons_ (dVar (pv 2)) (aCons_ dInt (aCons_ (dCallA c_law_side (hr.mono (by decide)) (by rfl) (aCons_ (dBoxIx (pv 1) dInt) aNil_)) aNil_)))) (aCons_ (dCallA c_law_among (hr.mono (by decide)) (by rfl) (aCons_ (dVar (pv 2)) (aCons_ dInt (aCons_ (dCallA c_law_side (hr.mono (by decide)) (by rfl) (aCons_ (dBoxIx (pv 1) dInt) aNil_)) aNil_)))) aNil_))))))
    (bCons (bLift (zPutBox (dCallA c_law_numbered (hr.mono (by decide)) (by rfl) (aCons_ (dBoxIx (pv 1) dInt) (aCons_ (dBoxIx (pv 1) dInt) (aCons_ (dVar (pv 5)) aNil_)))) (pv 1) dInt))
    (bOne (bRetM_ (dIsNoneM (dMethW SK mW_to (hr.mono (by decide)) (pv 0) (by decide) (aCons_ (dVar (pv 5)) aNil_)))))))))
theorem ok_law_pose (Fn : DefAt K mg "_law_pose" s_law_pose ["_law_number"])  : Av P w K mg base "_law_pose" ["_law_number"] 1 G_law_pose := by
  have nd := sc_law_pose.nd
  obtain ⟨fa, fd, Fn, gl, bd⟩ := Fn
  refine ⟨fa, fd, fn_pure Fn sc_law_pose rfl rfl (fun cdv A outer s H E hr => ?_), gl, Fn.kp, bd⟩
  exact (zOne (zRet (dIx (dLst (aCons_ dStr (aCons_ dStr (aCons_ dStr (aCons_ dStr aNil_))))) (dOp opD_mod (dVar (pv 0)) dInt))))
theorem okw_word (Fn : DefAt K mg "_law_word" s_law_word ["_law_e"]) (n_ValueError : mg "ValueError" = none) (n_int : mg "int" = none) (n_isinstance : mg "isinstance" = none) (q_BadCell : mg "BadCell" = some (.ref (He.ga K "BadCell"))) (k_BadCell : KitT K (.ref (He.ga K "BadCell")) tab_BadCell) (q_BadPose : mg "BadPose" = some (.ref (He.ga K "BadPose"))) (k_BadPose : KitT K (.ref (He.ga K "BadPose")) tab_BadPose) (q_BadSize : mg "BadSize" = some (.ref (He.ga K "BadSize"))) (k_BadSize : KitT K (.ref (He.ga K "BadSize")) tab_BadSize) (q_BadSquare : mg "BadSquare" = some (.ref (He.ga K "BadSquare"))) (k_BadSquare : KitT K (.ref (He.ga K "BadSquare")) tab_BadSquare) (q_BadNumber : mg "BadNumber" = some (.ref (He.ga K "BadNumber"))) (k_BadNumber : KitT K (.ref (He.ga K "BadNumber")) tab_BadNumber) (q_TooGreat : mg "TooGreat" = some (.ref (He.ga K "TooGreat"))) (k_TooGreat : KitT K (.ref (He.ga K "TooGreat")) tab_TooGreat) (q_BadField : mg "BadField" = some (.ref (He.ga K "BadField"))) (k_BadField : KitT K (.ref (He.ga K "BadField")) tab_BadField) (k_ValueError : KitT K (.type "ValueError") tab_ValueError) : AvW P w K mg base "_law_word" ["_law_e"] 1 W_law_word := by
  have nd := sc_law_word.nd
  obtain ⟨fa, fd, Fn, gl, bd⟩ := Fn
  refine ⟨fa, fd, fn_word Fn sc_law_word rfl (fun cdv A outer s H E hr => ?_), gl, Fn.kp, bd⟩
  exact (zSeq (zIf (tIsN_ (pv 0)) (zOne (zRet (dLst (aCons_ dStr aNil_)))) zNil)
    (zSeq (zSet (ps_set (i := 1) nd rfl (by first | exact Or.inl rfl | exact Or.inr rfl) (dLst (aCons_ (dTup (aCons_ dStr (aCons_ (dIsX (pv 0) (by rfl) n_isinstance (by rfl) q_BadSize k_BadSize) aNil_))) (aCons_ (dTup (aCons_ dStr (aCons_ (dIsX (pv 0) (by rfl) n_isinstance (by rfl) q_BadPose k_BadPose) aNil_))) (aCons_ (dTup (aCons_ dStr (aCons_ (dIsX (pv 0) (by rfl) n_isinstance (by rfl) q_BadCell k_BadCell) aNil_))) aNil_))))))
    (zSeq (zSet (ps_set (i := 1) nd rfl (by first | exact Or.inl rfl | exact Or.inr rfl) (dOp opD_add (dVar (pv 1)) (dLst (aCons_ (dTup (aCons_ dStr (aCons_ (dIsX (pv 0) (by rfl) n_isinstance (by rfl) q_BadNumber k_BadNumber) aNil_))) (aCons_ (dTup (aCons_ dStr (aCons_ (dIsX (pv 0) (by rfl) n_isinstance (by rfl) q_BadSquare k_BadSquare) aNil_))) aNil_))))))
    (zSeq (zSet (ps_set (i := 1) nd rfl (by first | exact Or.inl rfl | exact Or.inr rfl) (dOp opD_add (dVar (pv 1)) (dLst (aCons_ (dTup (aCons_ dStr (aCons_ (dIsX (pv 0) (by rfl) n_isinstance (by rfl) q_BadField k_BadField) aNil_))) (aCons_ (dTup (aCons_ dStr (aCons_ (dIsX (pv 0) (by rfl) n_isinstance (by rfl) q_TooGreat k_TooGreat) aNil_))) aNil_))))))
    (zOne (zRet (dOp opD_add (dLc (own := [("_law_word_here", 2), ("_law_is_it", 3)]) (is := [2, 3]) rfl nd (wList (dVar (pv 1))) (blkOk_by (own := [("_law_word_here", 2), ("_law_is_it", 3)]) (N := N_law_word) (sc := defScope s_law_word) (by decide +kernel)) (fun _ _ _ _ _ => (gTp_ rfl (gCons_ (pg_name (i := 2) nd rfl (by first | exact Or.inl rfl | exact Or.inr rfl)) (gCons_ (pg_name (i := 3) nd rfl (by first | exact Or.inl rfl | exact Or.inr rfl)) gNil_)))) (fun _ _ _ _ _ => (lOne (tVal_ (dVar (pv 3))))) (fun _ _ _ _ _ => (dVar (pv 2))) (by decide)) (dRep (aCons_ dStr aNil_) (dCT callD_int (by rfl) n_int (by decide +kernel) (aCons_ (dNot (dIsXT (pv 0) (by rfl) n_isinstance (by rfl) n_ValueError (by decide +kernel) k_ValueError)) aNil_))))))))))
theorem okb_refused {T : List (Addr × Str)} (Fn : DefAtT K mg "_law_refused" s_law_refused ["_law_stroll", "_law_own", "_law_number"]) (c_law_many : Av P w K mg base "_law_many" ["_law_level"] 1 G_law_many) (c_law_side : Av P w K mg base "_law_side" ["_law_level"] 1 G_law_side) (SK : StK K) (mR_go : AvMR P w K mg base "go" ["self", "steps"] 2 M_go) (mR_to : AvMR P w K mg base "to" ["self", "cell"] 5 M_to) (mR_ways : AvMR P w K mg base "ways" ["self", "steps"] 6 M_ways) (w_word : AvW P w K mg base "_law_word" ["_law_e"] 1 W_law_word) (kd : KeptD K mg "_law_kept" "_law_deed" "_law_kept_here" "_law_e" "LineError" s_law_kept (He.ga K "LineError")) (kt : KeepT K mg (He.ga K "LineError") okC_k14) (td : TabD K base mg T "_law_refused" (defScope s_law_refused)) : AvMT P w K T mg base "_law_refused" ["_law_stroll", "_law_own", "_law_number"] 9 MT_law_refused := by
  have nd := sc_law_refused.nd
  obtain ⟨fa, fd, Fn, gl, bd, hfd⟩ := Fn
  refine ⟨fa, fd, fn_mT Fn sc_law_refused rfl rfl (fun cdv A outer s H E hcd hr => ?_), gl, Fn.kp, bd⟩
  have hcode : cdv = .ref (He.cT K ("_law_refused", none)).1 := hcd.symm.trans hfd
  exact (kSeq (kPure (zSet (ps_set (i := 3) nd rfl (by first | exact Or.inl rfl | exact Or.inr rfl) (dCallA c_law_many (hr.mono (by decide)) (by rfl) (aCons_ (dIx (dVar (pv 1)) dInt) aNil_)))) nb_asg)
    (kSeq (kPure (zSet (ps_set (i := 4) nd rfl (by first | exact Or.inl rfl | exact Or.inr rfl) (dIx (dLst (aCons_ dBl (aCons_ dNon (aCons_ dStr (aCons_ (dLst (aCons_ dInt aNil_)) (aCons_ (dTup (aCons_ dInt aNil_)) (aCons_ dDict0 (aCons_ dBl aNil_)))))))) (dOp opD_mod (dOp opD_div (dVar (pv 2)) dInt) dInt)))) nb_asg)
    (kSeq (kIf (tLift (tCmp_ (opD_eq hr.units) (dOp opD_mod (dVar (pv 2)) dInt) dInt (nomark _))) (kSeq (kPure (zSet (ps_set (i := 7) nd rfl (by first | exact Or.inl rfl | exact Or.inr rfl) (dIx (dLst (aCons_ (dVar (pv 4)) (aCons_ (dOp opD_sub (dVar (pv 3)) (dIx (dVar (pv 1)) dInt)) (aCons_ (dOp opD_add (dOp opD_sub (dVar (pv 3)) (dIx (dVar (pv 1)) dInt)) (dVar (pv 2))) (aCons_ (dOp opD_sub (dNeg dInt) (dIx (dVar (pv 1)) dInt)) (aCons_ (dOp opD_sub (dOp opD_sub (dNeg dInt) (dIx (dVar (pv 1)) dInt)) (dVar (pv 2))) aNil_)))))) (dOp opD_mod (dOp opD_div (dVar (pv 2)) dInt) dInt)))) nb_asg)
    (kOne (kRet (eCmpL (opD_eq hr.units) (dKWn (T := T) (k := 2) w_word (hr.mono (by decide)) (by rfl) kd (by rfl) kt td.b hcode (by exact td.m) (by exact td.u) (hr.mono (by decide)) (show LamS (defScope s_law_refused) _ from lamS_by (by decide +kernel)) (by rfl) (fun _ _ _ _ _ => rfl)
      (fun A2 outer2 s2 H2 E2 f2 c2 hr2 => eMethX SK mR_go hr2 (pv 0) (by decide) (takes_of rfl rfl rfl rfl) (aCons_ (dVar (pv 7)) aNil_))) (dLst (aCons_ dStr aNil_)) (nomark _))))) kNil)
    (kSeq (kIf (tLift (tCmp_ (opD_eq hr.units) (dOp opD_mod (dVar (pv 2)) dInt) dInt (nomark _))) (kSeq (kPure (zSet (ps_set (i := 7) nd rfl (by first | exact Or.inl rfl | exact Or.inr rfl) (dIx (dLst (aCons_ (dVar (pv 4)) (aCons_ (dNeg dInt) (aCons_ dInt (aCons_ (dOp opD_add dInt (dVar (pv 2))) (aCons_ (dOp opD_pow dInt dInt) aNil_)))))) (dOp opD_mod (dOp opD_div (dVar (pv 2)) dInt) dInt)))) nb_asg)
    (kOne (kRet (eCmpL (opD_eq hr.units) (dKWn (T := T) (k := 6) w_word (hr.mono (by decide)) (by rfl) kd (by rfl) kt td.b hcode (by exact td.m) (by exact td.u) (hr.mono (by decide)) (show LamS (defScope s_law_refused) _ from lamS_by (by decide +kernel)) (by rfl) (fun _ _ _ _ _ => rfl)
      (fun A2 outer2 s2 H2 E2 f2 c2 hr2 => eMethX SK mR_ways hr2 (pv 0) (by decide) (takes_of rfl rfl rfl rfl) (aCons_ (dVar (pv 7)) aNil_))) (dLst (aCons_ dStr aNil_)) (nomark _))))) kNil)
    (kSeq (kPure (zSet (ps_set (i := 5) nd rfl (by first | exact Or.inl rfl | exact Or.inr rfl) (dCallA c_law_side (hr.mono (by decide)) (by rfl) (aCons_ (dIx (dVar (pv 1)) dInt) aNil_)))) nb_asg)
    (kSeq (kPure (zSet (ps_set (i := 6) nd rfl (by first | exact Or.inl rfl | exact Or.inr rfl) (dLst (aCons_ (dVar (pv 4)) (aCons_ (dTup (aCons_ (dVar (pv 4)) (aCons_ dInt aNil_))) (aCons_ (dTup (aCons_ dInt (aCons_ (dVar (pv 4)) aNil_))) (aCons_ (dTup (aCons_ (dVar (pv 5)) (aCons_ dInt aNil_))) (aCons_ (dTup (aCons_ dInt (aCons_ (dVar (pv 5)) aNil_))) (aCons_ (dTup (aCons_ (dNeg dInt) (aCons_ dInt aNil_))) (aCons_ (dLst (aCons_ dInt (aCons_ dInt aNil_))) (aCons_ (dTup (aCons_ dInt aNil_)) (aCons_ (dTup (aCons_ dInt (aCons_ dInt (aCons_ dInt aNil_)))) (aCons_ (dTup (aCons_ dInt (aCons_ (dOp opD_add (dVar (pv 5)) (dVar (pv 2))) aNil_))) aNil_))))))))))))) nb_asg)
    (kOne (kRet (eCmpL (opD_eq hr.units) (dKWn (T := T) (k := 5) w_word (hr.mono (by decide)) (by rfl) kd (by rfl) kt td.b hcode (by exact td.m) (by exact td.u) (hr.mono (by decide)) (show LamS (defScope s_law_refused) _ from lamS_by (by decide +kernel)) (by rfl) (fun _ _ _ _ _ => rfl)
      (fun A2 outer2 s2 H2 E2 f2 c2 hr2 => eMethX SK mR_to hr2 (pv 0) (by decide) (takes_of rfl rfl rfl rfl) (aCons_ (dIx (dVar (pv 6)) (dOp opD_mod (dOp opD_div (dVar (pv 2)) dInt) dInt)) aNil_))) (dLst (aCons_ dStr aNil_)) (nomark _))))))))))
theorem okmR_number {fa : Addr} {fd : FuncData} (Fn : FunD K "number" "Stroll.number" (defArgs s_Stroll_number) (defBody s_Stroll_number) (defScope s_Stroll_number) [] [] fa fd) (M : Meth K (StC K) "number" fa) (bd : Binds K fd ["self"] []) (SK : StK K) : AvMR P w K mg base "number" ["self"] 1 M_number := by
  have nd := sc_Stroll_number.nd
  refine ⟨fa, fd, M, fn_mR Fn sc_Stroll_number rfl rfl (fun cdv A outer s H E hr => ?_), bd⟩
  have tk : L2.Takes (cxOf (L2.CX P w) P w K mg base N_Stroll_number "Stroll.number" (defScope s_Stroll_number) fa cdv A outer s H E) (fun cls d _ H => E cls d H) := takes_of rfl rfl rfl rfl
  exact (xPures (zOne (zRet (dFld SK (pv 0) (by rfl)))) nb_ret)
theorem ok_law_walked (Fn : DefAt K mg "_law_walked" s_law_walked ["_law_size_here", "_law_pose_here", "_law_number"]) (c_law_laid : Av P w K mg base "_law_laid" ["_law_pose_here", "_law_side_here", "_law_x", "_law_y"] 1 G_law_laid) (c_law_many : Av P w K mg base "_law_many" ["_law_level"] 1 G_law_many) (n_range : mg "range" = none) : Av P w K mg base "_law_walked" ["_law_size_here", "_law_pose_here", "_law_number"] 2 G_law_walked := by
  have nd := sc_law_walked.nd
  obtain ⟨fa, fd, Fn, gl, bd⟩ := Fn
  refine ⟨fa, fd, fn_pure Fn sc_law_walked rfl rfl (fun cdv A outer s H E hr => ?_), gl, Fn.kp, bd⟩
  exact (zSeq (zAsg (dTup (aCons_ dInt (aCons_ dInt (aCons_ dInt aNil_)))) (gTp_ rfl (gCons_ (pg_name (i := 3) nd rfl (by first | exact Or.inl rfl | exact Or.inr rfl)) (gCons_ (pg_name (i := 4) nd rfl (by first | exact Or.inl rfl | exact Or.inr rfl)) (gCons_ (pg_name (i := 5) nd rfl (by first | exact Or.inl rfl | exact Or.inr rfl)) gNil_)))))
    (zSeq (zFor PassesOwn.never rfl (wRng1 (by rfl) n_range (dVar (pv 0))) (gNm_ (pg_name (i := 6) nd rfl (by first | exact Or.inl rfl | exact Or.inr rfl))) (zSeq (zSet (ps_set (i := 7) nd rfl (by first | exact Or.inl rfl | exact Or.inr rfl) (dOp opD_mod (dOp opD_div (dVar (pv 2)) (dCallA c_law_many (hr.mono (by decide)) (by rfl) (aCons_ (dVar (pv 6)) aNil_))) dInt)))
    (zSeq (zIf (tCmp_ (opD_eq hr.units) (dVar (pv 7)) dInt (nomark _)) (zOne (zPar (ps_par (i := 3) (j := 4) rfl nd rfl rfl (by decide) rfl rfl (aCons_ (dVar (pv 4)) (aCons_ (dVar (pv 3)) aNil_)) (by rfl)))) (zOne (zIf (tCmp_ (opD_eq hr.units) (dVar (pv 7)) dInt (nomark _)) (zOne (zPar (ps_par (i := 3) (j := 4) rfl nd rfl rfl (by decide) rfl rfl (aCons_ (dOp opD_sub (dOp opD_sub (dOp opD_mul dInt (dVar (pv 5))) dInt) (dVar (pv 4))) (aCons_ (dOp opD_sub (dOp opD_sub (dVar (pv 5)) dInt) (dVar (pv 3))) aNil_)) (by rfl)))) (zOne (zPar (ps_par (i := 3) (j := 4) rfl nd rfl rfl (by decide) rfl rfl (aCons_ (dOp opD_add (dVar (pv 3)) (dOp opD_mul (dVar (pv 5)) (dOp opD_sub (dVar (pv 7)) dInt))) (aCons_ (dOp opD_add (dVar (pv 4)) (dVar (pv 5))) aNil_)) (by rfl)))))))
    (zOne (zSet (ps_set (i := 5) nd rfl (by first | exact Or.inl rfl | exact Or.inr rfl) (dOp opD_mul dInt (dVar (pv 5)))))))))
    (zOne (zRet (dCallA c_law_laid (hr.mono (by decide)) (by rfl) (aCons_ (dVar (pv 1)) (aCons_ (dVar (pv 5)) (aCons_ (dVar (pv 3)) (aCons_ (dVar (pv 4)) aNil_)))))))))
theorem oko_law_ways (Fn : DefAt K mg "_law_ways" s_law_ways ["_law_size_here", "_law_pose_here", "_law_at", "_law_steps"]) (c_law_many : Av P w K mg base "_law_many" ["_law_level"] 1 G_law_many) (c_law_walked : Av P w K mg base "_law_walked" ["_law_size_here", "_law_pose_here", "_law_number"] 2 G_law_walked) (n_min : mg "min" = none) (n_range : mg "range" = none) : AvO P w K mg base "_law_ways" ["_law_size_here", "_law_pose_here", "_law_at", "_law_steps"] 3 H_law_ways := by
  have nd := sc_law_ways.nd
  obtain ⟨fa, fd, Fn, gl, bd⟩ := Fn
  refine ⟨fa, fd, fn_own Fn sc_law_ways rfl rfl (fun cdv A outer s H E hr => ?_), gl, Fn.kp, bd⟩
  exact (zSeq (zOwn (ps_set (i := 4) nd rfl (by first | exact Or.inl rfl | exact Or.inr rfl) (pe_lst aNil_)))
    (zSeq (zSet (ps_set (i := 5) nd rfl (by first | exact Or.inl rfl | exact Or.inr rfl) (dCallA c_law_walked (hr.mono (by decide)) (by rfl) (aCons_ (dVar (pv 0)) (aCons_ (dVar (pv 1)) (aCons_ (dVar (pv 2)) aNil_))))))
    (zSeq (zFor PassesOwn.never rfl (wRngW (by rfl) n_range (dOp opD_add (dVar (pv 2)) dInt) (dOp opD_add (dCB (callD_min2 rfl) (by rfl) n_min (by decide +kernel) (aCons_ (dOp opD_add (dVar (pv 2)) (dVar (pv 3))) (aCons_ (dOp opD_sub (dCallA c_law_many (hr.mono (by decide)) (by rfl) (aCons_ (dVar (pv 0)) aNil_)) dInt) aNil_))) dInt)) (gNm_ (pg_name (i := 6) nd rfl (by first | exact Or.inl rfl | exact Or.inr rfl))) (zSeq (zSet (ps_set (i := 7) nd rfl (by first | exact Or.inl rfl | exact Or.inr rfl) (dCallA c_law_walked (hr.mono (by decide)) (by rfl) (aCons_ (dVar (pv 0)) (aCons_ (dVar (pv 1)) (aCons_ (dVar (pv 6)) aNil_))))))
    (zSeq (zSet (ps_set (i := 8) nd rfl (by first | exact Or.inl rfl | exact Or.inr rfl) (dTup (aCons_ (dOp opD_sub (dIx (dVar (pv 7)) dInt) (dIx (dVar (pv 5)) dInt)) (aCons_ (dOp opD_sub (dIx (dVar (pv 7)) dInt) (dIx (dVar (pv 5)) dInt)) aNil_)))))
    (zSeq (zDropM (dApp (pv 4) (dWay (tab := [((1, 0), "right"), (((-1), 0), "left"), ((0, 1), "up"), ((0, (-1)), "down")]) (hu14 hr) (pps_cons (kTup kInt kInt) pe_str (pps_cons (kTup kNeg kInt) pe_str (pps_cons (kTup kInt kInt) pe_str (pps_cons (kTup kInt kNeg) pe_str pps_nil)))) (dVar (pv 8)) (by rfl) (by rfl) (by simp) (by decide) (by decide) (by decide) (fun _ _ => rfl))))
    (zOne (zSet (ps_set (i := 5) nd rfl (by first | exact Or.inl rfl | exact Or.inr rfl) (dVar (pv 7)))))))))
    (zOne (zRetO (pv 4))))))
theorem ok_law_ways (Fn : DefAt K mg "_law_ways" s_law_ways ["_law_size_here", "_law_pose_here", "_law_at", "_law_steps"]) (c_law_many : Av P w K mg base "_law_many" ["_law_level"] 1 G_law_many) (c_law_walked : Av P w K mg base "_law_walked" ["_law_size_here", "_law_pose_here", "_law_number"] 2 G_law_walked) (n_min : mg "min" = none) (n_range : mg "range" = none) : Av P w K mg base "_law_ways" ["_law_size_here", "_law_pose_here", "_law_at", "_law_steps"] 3 G_law_ways := by
  have nd := sc_law_ways.nd
  obtain ⟨fa, fd, Fn, gl, bd⟩ := Fn
  refine ⟨fa, fd, fn_pure Fn sc_law_ways rfl rfl (fun cdv A outer s H E hr => ?_), gl, Fn.kp, bd⟩
  exact (zSeq (zOwn (ps_set (i := 4) nd rfl (by first | exact Or.inl rfl | exact Or.inr rfl) (pe_lst aNil_)))
    (zSeq (zSet (ps_set (i := 5) nd rfl (by first | exact Or.inl rfl | exact Or.inr rfl) (dCallA c_law_walked (hr.mono (by decide)) (by rfl) (aCons_ (dVar (pv 0)) (aCons_ (dVar (pv 1)) (aCons_ (dVar (pv 2)) aNil_))))))
    (zSeq (zFor PassesOwn.never rfl (wRngW (by rfl) n_range (dOp opD_add (dVar (pv 2)) dInt) (dOp opD_add (dCB (callD_min2 rfl) (by rfl) n_min (by decide +kernel) (aCons_ (dOp opD_add (dVar (pv 2)) (dVar (pv 3))) (aCons_ (dOp opD_sub (dCallA c_law_many (hr.mono (by decide)) (by rfl) (aCons_ (dVar (pv 0)) aNil_)) dInt) aNil_))) dInt)) (gNm_ (pg_name (i := 6) nd rfl (by first | exact Or.inl rfl | exact Or.inr rfl))) (zSeq (zSet (ps_set (i := 7) nd rfl (by first | exact Or.inl rfl | exact Or.inr rfl) (dCallA c_law_walked (hr.mono (by decide)) (by rfl) (aCons_ (dVar (pv 0)) (aCons_ (dVar (pv 1)) (aCons_ (dVar (pv 6)) aNil_))))))
    (zSeq (zSet (ps_set (i := 8) nd rfl (by first | exact Or.inl rfl | exact Or.inr rfl) (dTup (aCons_ (dOp opD_sub (dIx (dVar (pv 7)) dInt) (dIx (dVar (pv 5)) dInt)) (aCons_ (dOp opD_sub (dIx (dVar (pv 7)) dInt) (dIx (dVar (pv 5)) dInt)) aNil_)))))
    (zSeq (zDropM (dApp (pv 4) (dWay (tab := [((1, 0), "right"), (((-1), 0), "left"), ((0, 1), "up"), ((0, (-1)), "down")]) (hu14 hr) (pps_cons (kTup kInt kInt) pe_str (pps_cons (kTup kNeg kInt) pe_str (pps_cons (kTup kInt kInt) pe_str (pps_cons (kTup kInt kNeg) pe_str pps_nil)))) (dVar (pv 8)) (by rfl) (by rfl) (by simp) (by decide) (by decide) (by decide) (fun _ _ => rfl))))
    (zOne (zSet (ps_set (i := 5) nd rfl (by first | exact Or.inl rfl | exact Or.inr rfl) (dVar (pv 7)))))))))
    (zOne (zRetO (pv 4))))))
theorem ok_law_whole (Fn : DefAt K mg "_law_whole" s_law_whole ["_law_found"]) (n_bool : mg "bool" = none) (n_int : mg "int" = none) (n_isinstance : mg "isinstance" = none) : Av P w K mg base "_law_whole" ["_law_found"] 1 G_law_whole := by
  have nd := sc_law_whole.nd
  obtain ⟨fa, fd, Fn, gl, bd⟩ := Fn
  refine ⟨fa, fd, fn_pure Fn sc_law_whole rfl rfl (fun cdv A outer s H E hr => ?_), gl, Fn.kp, bd⟩
  exact (zOne (zRet (dAnd (dIs (k := "int") (by rfl) n_isinstance (by rfl) n_int boot_int (by decide) (dVar (pv 0))) (dOne (dNot (dIs (k := "bool") (by rfl) n_isinstance (by rfl) n_bool boot_bool (by decide) (dVar (pv 0))))))))
theorem okb_right (Fn : DefAt K mg "_law_right" s_law_right ["_law_stroll", "_law_own", "_law_number"]) (c_law_walked : Av P w K mg base "_law_walked" ["_law_size_here", "_law_pose_here", "_law_number"] 2 G_law_walked) (c_law_ways : Av P w K mg base "_law_ways" ["_law_size_here", "_law_pose_here", "_law_at", "_law_steps"] 3 G_law_ways) (c_law_whole : Av P w K mg base "_law_whole" ["_law_found"] 1 G_law_whole) (SK : StK K) (mR_here : AvMR P w K mg base "here" ["self"] 5 M_here) (mR_number : AvMR P w K mg base "number" ["self"] 1 M_number) (mO_ways : AvMO P w K mg base "ways" ["self", "steps"] 6 MO_ways) (n_isinstance : mg "isinstance" = none) (n_list : mg "list" = none) (n_range : mg "range" = none) : AvFR P w K mg base "_law_right" ["_law_stroll", "_law_own", "_law_number"] 7 M_law_right := by
  have nd := sc_law_right.nd
  obtain ⟨fa, fd, Fn, gl, bd⟩ := Fn
  refine ⟨fa, fd, fn_mR Fn sc_law_right rfl rfl (fun cdv A outer s H E hr => ?_), gl, Fn.kp, bd⟩
  exact (xPures (zSeq (zFor PassesOwn.never rfl (wRng1 (by rfl) n_range dInt) (gNm_ (pg_name (i := 3) nd rfl (by first | exact Or.inl rfl | exact Or.inr rfl))) (zSeq (zSet (ps_set (i := 4) nd rfl (by first | exact Or.inl rfl | exact Or.inr rfl) (dOp opD_mod (dOp opD_add (dVar (pv 2)) (dOp opD_mul (dVar (pv 3)) (dOp opD_add dInt (dOp opD_mul (dOp opD_mod (dOp opD_div (dVar (pv 2)) dInt) dInt) dInt)))) dInt)))
    (zSeq (zIf (L2.PW.pt (wAnd (tCmp_ (opD_eq hr.units) (dVar (pv 4)) dInt (nomark _)) (wAnd1 (L2.PW.pt (wOr (tNot_ (tVal_ (dCallA c_law_whole (hr.mono (by decide)) (by rfl) (aCons_ (dMeth0 SK mR_number (hr.mono (by decide)) (pv 0) (by decide)) aNil_)))) (wOr1 (tCmp_ (opD_ne hr.units) (dMeth0 SK mR_number (hr.mono (by decide)) (pv 0) (by decide)) (dIx (dVar (pv 1)) dInt) (nomark _)))))))) (zOne (zRet dBl)) zNil)
    (zSeq (zIf (L2.PW.pt (wAnd (tCmp_ (opD_eq hr.units) (dVar (pv 4)) dInt (nomark _)) (wAnd1 (tCmp_ (opD_ne hr.units) (dMeth0 SK mR_here (hr.mono (by decide)) (pv 0) (by decide)) (dCallA c_law_walked (hr.mono (by decide)) (by rfl) (aCons_ (dIx (dVar (pv 1)) dInt) (aCons_ (dIx (dVar (pv 1)) dInt) (aCons_ (dIx (dVar (pv 1)) dInt) aNil_)))) (nomark _))))) (zOne (zRet dBl)) zNil)
    (zOne (zIf (tCmp_ opD_gt (dVar (pv 4)) dInt (nomark _)) (zSeq (zSet (ps_set (i := 5) nd rfl (by first | exact Or.inl rfl | exact Or.inr rfl) (dOp opD_mod (dOp opD_div (dVar (pv 2)) dInt) dInt)))
    (zSeq (zOwnMeth (ps_set (i := 6) nd rfl (by first | exact Or.inl rfl | exact Or.inr rfl) (dMethO SK mO_ways (hr.mono (by decide)) (pv 0) (by decide) (aCons_ (dVar (pv 5)) aNil_))))
    (zSeq (zIf (tFz (L2.PW.pt (wOr (tNot_ (tVal_ (dIs (k := "list") (by rfl) n_isinstance (by rfl) n_list boot_list (by decide) (dVar (pv 6))))) (wOr1 (tCmp_ (opD_ne hr.units) (dVar (pv 6)) (dCallA c_law_ways (hr.mono (by decide)) (by rfl) (aCons_ (dIx (dVar (pv 1)) dInt) (aCons_ (dIx (dVar (pv 1)) dInt) (aCons_ (dIx (dVar (pv 1)) dInt) (aCons_ (dVar (pv 5)) aNil_))))) (nomark _)))))) (zOne (zRet dBl)) zNil)
    (zOne (zDropM (dApp (pv 6) dStr)))))) zNil))))))
    (zOne (zRet dBl))) (nb_seq (nb_for (F := B_law_right_1) (nb_seq nb_asg (nb_seq (nb_if nb_ret nb_next) (nb_seq (nb_if nb_ret nb_next) (nb_if (nb_seq nb_asg (nb_seq nb_ownMeth (nb_seq (nb_if nb_ret nb_next) nb_dropM))) nb_next))))) nb_ret))
theorem ok_law_size (Fn : DefAt K mg "_law_size" s_law_size ["_law_number"])  : Av P w K mg base "_law_size" ["_law_number"] 1 G_law_size := by
  have nd := sc_law_size.nd
  obtain ⟨fa, fd, Fn, gl, bd⟩ := Fn
  refine ⟨fa, fd, fn_pure Fn sc_law_size rfl rfl (fun cdv A outer s H E hr => ?_), gl, Fn.kp, bd⟩
  exact (zOne (zRet (dIx (dLst (aCons_ dInt (aCons_ dInt (aCons_ dInt (aCons_ dInt (aCons_ (dOp opD_mod (dOp opD_div (dVar (pv 0)) dInt) dInt) (aCons_ dInt (aCons_ (dOp opD_mod (dOp opD_div (dVar (pv 0)) dInt) dInt) (aCons_ dInt aNil_))))))))) (dOp opD_mod (dVar (pv 0)) dInt))))
theorem ok_law_k14 {T : List (Addr × Str)} {fa : Addr} {fd : FuncData} (Fn : FunD K "law" "law" (defArgs s_law_k14) (defBody s_law_k14) (defScope s_law_k14) [] [] fa fd) (hfd : fd.code = .ref (He.cT K ("law", none)).1) (c_law_many : Av P w K mg base "_law_many" ["_law_level"] 1 G_law_many) (c_law_mixed : Av P w K mg base "_law_mixed" ["_law_cell", "_law_k"] 1 G_law_mixed) (c_law_pose : Av P w K mg base "_law_pose" ["_law_number"] 1 G_law_pose) (c_law_size : Av P w K mg base "_law_size" ["_law_number"] 1 G_law_size) (c_law_ways : Av P w K mg base "_law_ways" ["_law_size_here", "_law_pose_here", "_law_at", "_law_steps"] 3 G_law_ways) (SK : StK K) (mR_ways : AvMR P w K mg base "ways" ["self", "steps"] 6 M_ways) (b_moved : AvBW P w K mg base "_law_moved" ["_law_stroll", "_law_own", "_law_cell", "_law_number"] 6 MB_law_moved) (b_refused : AvMT P w K T mg base "_law_refused" ["_law_stroll", "_law_own", "_law_number"] 9 MT_law_refused) (b_right : AvFR P w K mg base "_law_right" ["_law_stroll", "_law_own", "_law_number"] 7 M_law_right) (n_enumerate : mg "enumerate" = none) (n_int : mg "int" = none) (n_min : mg "min" = none) (n_range : mg "range" = none) (n_sum : mg "sum" = none) (i_Stroll : AvI P w K mg base "Stroll" 4 X_Stroll "size" "pose" "at" (He.ga K "Stroll")) : FnOk P w K mg base CX0 10 fa fd ["_law_script"] (spLT K T G_law_k14) := by
  have nd := sc_law_k14.nd
  refine fn_lawT Fn sc_law_k14 rfl (fun cdv A outer s H E hcd hr => ?_)
  have hcode : cdv = .ref (He.cT K ("law", none)).1 := hcd.symm.trans hfd
  exact (kSeq (kPure (zSet (ps_set (i := 1) nd rfl (by first | exact Or.inl rfl | exact Or.inr rfl) (dCB (callD_sum rfl) (by rfl) n_sum (by decide +kernel) (aCons_ (dLc (own := [("_law_k", 4), ("_law_cell", 5)]) (is := [4, 5]) rfl nd (wEnum (by rfl) n_enumerate (dScr (pv 0) pow_none pow_int)) (blkOk_by (own := [("_law_k", 4), ("_law_cell", 5)]) (N := N_law_k14) (sc := defScope s_law_k14) (by decide +kernel)) (fun _ _ _ _ _ => (gTp_ rfl (gCons_ (pg_name (i := 4) nd rfl (by first | exact Or.inl rfl | exact Or.inr rfl)) (gCons_ (pg_name (i := 5) nd rfl (by first | exact Or.inl rfl | exact Or.inr rfl)) gNil_)))) (fun _ _ _ _ _ => lNil) (fun _ _ _ _ _ => (dCallA c_law_mixed (hr.mono (by decide)) (by rfl) (aCons_ (dVar (pv 5)) (aCons_ (dVar (pv 4)) aNil_)))) (by decide)) aNil_)))) nb_asg)
    (kSeq (kPure (zBoxs (dSetLcB (i := 2) (own := [("_law_k", 4)]) (is := [4]) rfl nd rfl rfl (sw_true rfl rfl rfl (by decide +kernel)) (wRng1 (by rfl) n_range dInt) (blkOk_by (own := [("_law_k", 4)]) (N := N_law_k14) (sc := defScope s_law_k14) (by decide +kernel)) (fun _ _ _ _ _ => (gNm_ (pg_name (i := 4) nd rfl (by first | exact Or.inl rfl | exact Or.inr rfl)))) (fun _ _ _ _ _ => lNil) (fun _ _ _ _ _ => (dNewL (aCons_ (dCallA c_law_size (hr.mono (by decide)) (by rfl) (aCons_ (dOp opD_div (dVar (pv 1)) (dOp opD_add dInt (dOp opD_mul dInt (dVar (pv 4))))) aNil_)) (aCons_ (dCallA c_law_pose (hr.mono (by decide)) (by rfl) (aCons_ (dOp opD_div (dVar (pv 1)) (dOp opD_add dInt (dVar (pv 4)))) aNil_)) (aCons_ dInt aNil_))))) (by decide))) nb_boxs)
    (kSeq (kPure (zBoxs (zFrzB (dSetLcB (i := 3) (own := [("_law_own", 12)]) (is := [12]) rfl nd rfl rfl (sw_true rfl rfl rfl (by decide +kernel)) (wList (dVar (pv 2))) (blkOk_by (own := [("_law_own", 12)]) (N := N_law_k14) (sc := defScope s_law_k14) (by decide +kernel)) (fun _ _ _ _ _ => (gNm_ (pg_name (i := 12) nd rfl (by first | exact Or.inl rfl | exact Or.inr rfl)))) (fun _ _ _ _ _ => lNil) (fun _ _ _ _ _ => (dNewS i_Stroll (hr.mono (by decide)) (by rfl) (aCons_ (dIx (dVar (pv 12)) dInt) (aCons_ (dIx (dVar (pv 12)) dInt) aNil_)))) (by decide)))) nb_boxs)
    (kSeq (kFor PassesOwn.never rfl (wEnumL (by rfl) n_enumerate (dScr (pv 0) pow_none pow_int)) (gTp_ rfl (gCons_ (pg_name (i := 4) nd rfl (by first | exact Or.inl rfl | exact Or.inr rfl)) (gCons_ (pg_name (i := 5) nd rfl (by first | exact Or.inl rfl | exact Or.inr rfl)) gNil_))) (kSeq (kPure (zSet (ps_set (i := 9) nd rfl (by first | exact Or.inl rfl | exact Or.inr rfl) (dCallA c_law_mixed (hr.mono (by decide)) (by rfl) (aCons_ (dVar (pv 5)) (aCons_ (dVar (pv 4)) aNil_))))) nb_asg)
    (kSeq (kPure (zSet (ps_set (i := 10) nd rfl (by first | exact Or.inl rfl | exact Or.inr rfl) (dOp opD_div (dOp opD_mod (dVar (pv 9)) dInt) dInt))) nb_asg)
    (kSeq (kIf (tLift (tCmp_ (opD_eq hr.units) (dOp opD_mod (dOp opD_div (dVar (pv 9)) dInt) dInt) dInt (nomark _))) (kOne (kIf (tNotL (tValL (dBxT b_refused (hr.mono (by decide)) (by rfl) (pv 3) (dVar (pv 10)) (pv 2) (dVar (pv 10)) (aCons_ (dOp opD_div (dVar (pv 9)) dInt) aNil_)))) (kOne (kPure (zRet dBl) nb_ret)) kNil)) (kOne (kIfM (tNotM (tValM (dBxW b_moved (hr.mono (by decide)) (by rfl) (pv 3) (dVar (pv 10)) (pv 2) (dVar (pv 10)) (aCons_ (dVar (pv 5)) (aCons_ (dOp opD_div (dVar (pv 9)) dInt) aNil_)) (by decide)))) (kOne (kPure (zRet dBl) nb_ret)) kNil)))
    (kOne (kPure (zFor PassesOwn.never rfl (wList (dUpTo (dLst (aCons_ (dVar (pv 10)) (aCons_ (dOp opD_sub dInt (dVar (pv 10))) aNil_))) (dOp opD_add dInt (dOp opD_mod (dOp opD_div (dVar (pv 9)) dInt) dInt)))) (gNm_ (pg_name (i := 11) nd rfl (by first | exact Or.inl rfl | exact Or.inr rfl))) (zOne (zIf (tNot_ (tVal_ (dBxF b_right (hr.mono (by decide)) (by rfl) (pv 3) (dVar (pv 11)) (pv 2) (dVar (pv 11)) (aCons_ (dOp opD_div (dVar (pv 9)) dInt) aNil_)))) (zOne (zRet dBl)) zNil))) (nb_for (F := B_law_k14_1) (nb_if nb_ret nb_next))))))))
    (kSeq (kPure (zSet (ps_set (i := 6) nd rfl (by first | exact Or.inl rfl | exact Or.inr rfl) (dCB (callD_min2 rfl) (by rfl) n_min (by decide +kernel) (aCons_ (dOp opD_sub (dCallA c_law_many (hr.mono (by decide)) (by rfl) (aCons_ (dBxIx (pv 2) dInt dInt) aNil_)) dInt) (aCons_ dInt aNil_))))) nb_asg)
    (kSeq (kPure (zSet (ps_set (i := 7) nd rfl (by first | exact Or.inl rfl | exact Or.inr rfl) (dIf (tCmp_ opD_lt (dBxIx (pv 2) dInt dInt) dInt (nomark _)) (dBxM SK mR_ways (hr.mono (by decide)) (pv 3) dInt (by decide) (aCons_ dInt aNil_)) (dBxM SK mR_ways (hr.mono (by decide)) (pv 3) dInt (by decide) (aCons_ (dVar (pv 6)) aNil_))))) nb_asg)
    (kSeq (kPure (zSet (ps_set (i := 8) nd rfl (by first | exact Or.inl rfl | exact Or.inr rfl) (dCallA c_law_ways (hr.mono (by decide)) (by rfl) (aCons_ (dBxIx (pv 2) dInt dInt) (aCons_ (dBxIx (pv 2) dInt dInt) (aCons_ (dBxIx (pv 2) dInt dInt) (aCons_ (dIx (dLst (aCons_ (dVar (pv 6)) (aCons_ dInt aNil_))) (dCT callD_int (by rfl) n_int (by decide +kernel) (aCons_ (dCmp opD_lt (dBxIx (pv 2) dInt dInt) dInt (nomark _)) aNil_))) aNil_))))))) nb_asg)
    (kOne (kPure (zRet (dAnd (dCmp (opD_eq hr.units) (dVar (pv 7)) (dVar (pv 8)) (nomark _)) (dAnd (dBxF b_right (hr.mono (by decide)) (by rfl) (pv 3) dInt (pv 2) dInt (aCons_ (dVar (pv 1)) aNil_)) (dOne (dBxF b_right (hr.mono (by decide)) (by rfl) (pv 3) dInt (pv 2) dInt (aCons_ (dVar (pv 1)) aNil_)))))) nb_ret)))))))))
end
/-! ### the head: facts by names, the run -/
def D_cells_of : He.DefD := ⟨("cells_of", none), "cells_of", "cells_of", defArgs s_cells_of, defBody s_cells_of, defScope s_cells_of, [], []⟩
def D_both : He.DefD := ⟨("both", none), "both", "both", defArgs s_both, defBody s_both, defScope s_both, [], []⟩
def D_led : He.DefD := ⟨("led", none), "led", "led", defArgs s_led, defBody s_led, defScope s_led, [], []⟩
def D_quarter : He.DefD := ⟨("quarter", none), "quarter", "quarter", defArgs s_quarter, defBody s_quarter, defScope s_quarter, [], []⟩
def D_come_to : He.DefD := ⟨("come_to", none), "come_to", "come_to", defArgs s_come_to, defBody s_come_to, defScope s_come_to, [], []⟩
def D_is_among : He.DefD := ⟨("is_among", none), "is_among", "is_among", defArgs s_is_among, defBody s_is_among, defScope s_is_among, [], []⟩
def D_need_number : He.DefD := ⟨("need_number", none), "need_number", "need_number", defArgs s_need_number, defBody s_need_number, defScope s_need_number, [], []⟩
def D_need_pose : He.DefD := ⟨("need_pose", none), "need_pose", "need_pose", defArgs s_need_pose, defBody s_need_pose, defScope s_need_pose, [], []⟩
def D_need_size : He.DefD := ⟨("need_size", none), "need_size", "need_size", defArgs s_need_size, defBody s_need_size, defScope s_need_size, [], []⟩
def D_cell_at : He.DefD := ⟨("cell_at", none), "cell_at", "cell_at", defArgs s_cell_at, defBody s_cell_at, defScope s_cell_at, [], []⟩
def D_Stroll_here : He.DefD := ⟨("Stroll", some "here"), "here", "Stroll.here", defArgs s_Stroll_here, defBody s_Stroll_here, defScope s_Stroll_here, [], []⟩
def D_Stroll_ways : He.DefD := ⟨("Stroll", some "ways"), "ways", "Stroll.ways", defArgs s_Stroll_ways, defBody s_Stroll_ways, defScope s_Stroll_ways, [], []⟩
def D_law_many : He.DefD := ⟨("_law_many", none), "_law_many", "_law_many", defArgs s_law_many, defBody s_law_many, defScope s_law_many, [], []⟩
def D_law_mixed : He.DefD := ⟨("_law_mixed", none), "_law_mixed", "_law_mixed", defArgs s_law_mixed, defBody s_law_mixed, defScope s_law_mixed, [], []⟩
def D_Stroll_go : He.DefD := ⟨("Stroll", some "go"), "go", "Stroll.go", defArgs s_Stroll_go, defBody s_Stroll_go, defScope s_Stroll_go, [], []⟩
def D_found_at : He.DefD := ⟨("found_at", none), "found_at", "found_at", defArgs s_found_at, defBody s_found_at, defScope s_found_at, [], []⟩
def D_is_cell : He.DefD := ⟨("is_cell", none), "is_cell", "is_cell", defArgs s_is_cell, defBody s_is_cell, defScope s_is_cell, [], []⟩
def D_need_cell : He.DefD := ⟨("need_cell", none), "need_cell", "need_cell", defArgs s_need_cell, defBody s_need_cell, defScope s_need_cell, [], []⟩
def D_number_of : He.DefD := ⟨("number_of", none), "number_of", "number_of", defArgs s_number_of, defBody s_number_of, defScope s_number_of, [], []⟩
def D_Stroll_to : He.DefD := ⟨("Stroll", some "to"), "to", "Stroll.to", defArgs s_Stroll_to, defBody s_Stroll_to, defScope s_Stroll_to, [], []⟩
def D_law_among : He.DefD := ⟨("_law_among", none), "_law_among", "_law_among", defArgs s_law_among, defBody s_law_among, defScope s_law_among, [], []⟩
def D_law_laid : He.DefD := ⟨("_law_laid", none), "_law_laid", "_law_laid", defArgs s_law_laid, defBody s_law_laid, defScope s_law_laid, [], []⟩
def D_law_side : He.DefD := ⟨("_law_side", none), "_law_side", "_law_side", defArgs s_law_side, defBody s_law_side, defScope s_law_side, [], []⟩
def D_law_numbered : He.DefD := ⟨("_law_numbered", none), "_law_numbered", "_law_numbered", defArgs s_law_numbered, defBody s_law_numbered, defScope s_law_numbered, [], []⟩
def D_law_moved : He.DefD := ⟨("_law_moved", none), "_law_moved", "_law_moved", defArgs s_law_moved, defBody s_law_moved, defScope s_law_moved, [], []⟩
def D_law_pose : He.DefD := ⟨("_law_pose", none), "_law_pose", "_law_pose", defArgs s_law_pose, defBody s_law_pose, defScope s_law_pose, [], []⟩
def D_law_kept : He.DefD := ⟨("_law_kept", none), "_law_kept", "_law_kept", defArgs s_law_kept, defBody s_law_kept, defScope s_law_kept, [], []⟩
def D_law_word : He.DefD := ⟨("_law_word", none), "_law_word", "_law_word", defArgs s_law_word, defBody s_law_word, defScope s_law_word, [], []⟩
def D_law_refused : He.DefD := ⟨("_law_refused", none), "_law_refused", "_law_refused", defArgs s_law_refused, defBody s_law_refused, defScope s_law_refused, [], []⟩
def D_Stroll_number : He.DefD := ⟨("Stroll", some "number"), "number", "Stroll.number", defArgs s_Stroll_number, defBody s_Stroll_number, defScope s_Stroll_number, [], []⟩
def D_law_walked : He.DefD := ⟨("_law_walked", none), "_law_walked", "_law_walked", defArgs s_law_walked, defBody s_law_walked, defScope s_law_walked, [], []⟩
def D_law_ways : He.DefD := ⟨("_law_ways", none), "_law_ways", "_law_ways", defArgs s_law_ways, defBody s_law_ways, defScope s_law_ways, [], []⟩
def D_law_whole : He.DefD := ⟨("_law_whole", none), "_law_whole", "_law_whole", defArgs s_law_whole, defBody s_law_whole, defScope s_law_whole, [], []⟩
def D_law_right : He.DefD := ⟨("_law_right", none), "_law_right", "_law_right", defArgs s_law_right, defBody s_law_right, defScope s_law_right, [], []⟩
def D_law_size : He.DefD := ⟨("_law_size", none), "_law_size", "_law_size", defArgs s_law_size, defBody s_law_size, defScope s_law_size, [], []⟩
def D_law_k14 : He.DefD := ⟨("law", none), "law", "law", defArgs s_law_k14, defBody s_law_k14, defScope s_law_k14, [], []⟩
def D_Stroll_init : He.DefD := ⟨("Stroll", some "__init__"), "__init__", "Stroll.__init__", defArgs s_Stroll_init, defBody s_Stroll_init, defScope s_Stroll_init, [], []⟩
def fn : List He.DefD := [D_cells_of, D_both, D_led, D_quarter, D_come_to, D_is_among, D_need_number, D_need_pose, D_need_size, D_cell_at, D_Stroll_here, D_Stroll_ways, D_law_many, D_law_mixed, D_Stroll_go, D_found_at, D_is_cell, D_need_cell, D_number_of, D_Stroll_to] ++ [D_law_among, D_law_laid, D_law_side, D_law_numbered, D_law_moved, D_law_pose, D_law_kept, D_law_word, D_law_refused, D_Stroll_number, D_law_walked, D_law_ways, D_law_whole, D_law_right, D_law_size, D_law_k14, D_Stroll_init]
def fa : List He.Fa := [.glo "cells_of", .glo "both", .glo "led", .glo "quarter", .glo "come_to", .glo "is_among", .glo "need_number", .glo "need_pose", .glo "need_size", .glo "cell_at", .meth "Stroll" "here", .meth "Stroll" "ways", .glo "_law_many", .glo "_law_mixed", .meth "Stroll" "go", .glo "found_at", .glo "is_cell", .glo "need_cell", .glo "number_of", .meth "Stroll" "to"] ++ [.glo "_law_among", .glo "_law_laid", .glo "_law_side", .glo "_law_numbered", .glo "_law_moved", .glo "_law_pose", .glo "_law_kept", .glo "_law_word", .glo "_law_refused", .meth "Stroll" "number", .glo "_law_walked", .glo "_law_ways", .glo "_law_whole", .glo "_law_right", .glo "_law_size", .glo "law", .free "ValueError", .free "bool", .free "enumerate", .free "int"] ++ [.free "isinstance", .free "len", .free "list", .free "max", .free "min", .free "range", .free "reversed", .free "str", .free "sum", .free "tuple", .glo "BadCell", .glo "BadField", .glo "BadNumber", .glo "BadPose", .glo "BadSize", .glo "BadSquare", .glo "LineError", .glo "TooGreat", .glo "WAYS", .glo "Stroll"] ++ [.cls "Stroll", .mkr "Stroll", .noat "Stroll" "size", .noat "Stroll" "pose", .noat "Stroll" "at"]
def tf : List He.Defn := [("_law_refused", none)]
def ex0 (K : PySem.W.Frag) : Bool := gloD K "MOST_SIZE" d_MOST_SIZE
def ex1 (K : PySem.W.Frag) : Bool := gloD K "MOST_WAYS" d_MOST_WAYS
def ex2 (K : PySem.W.Frag) : Bool := gloD K "POSES" d_POSES
def ex3 (K : PySem.W.Frag) : Bool := gloD K "QUARTERS" d_QUARTERS
def ex4 (K : PySem.W.Frag) : Bool := excOk K "BadNumber"
def ex5 (K : PySem.W.Frag) : Bool := excOk K "BadPose"
def ex6 (K : PySem.W.Frag) : Bool := excOk K "BadSize"
def ex7 (K : PySem.W.Frag) : Bool := excOk K "BadCell"
def ex8 (K : PySem.W.Frag) : Bool := kitB K excs_k14 (fun K => .ref (He.ga K "BadCell")) one_BadCell
def ex9 (K : PySem.W.Frag) : Bool := kitB K excs_k14 (fun K => .ref (He.ga K "BadPose")) one_BadPose
def ex10 (K : PySem.W.Frag) : Bool := kitB K excs_k14 (fun K => .ref (He.ga K "BadSize")) one_BadSize
def ex11 (K : PySem.W.Frag) : Bool := kitB K excs_k14 (fun K => .ref (He.ga K "BadSquare")) one_BadSquare
def ex12 (K : PySem.W.Frag) : Bool := kitB K excs_k14 (fun K => .ref (He.ga K "BadNumber")) one_BadNumber
def ex13 (K : PySem.W.Frag) : Bool := kitB K excs_k14 (fun K => .ref (He.ga K "TooGreat")) one_TooGreat
def ex14 (K : PySem.W.Frag) : Bool := kitB K excs_k14 (fun K => .ref (He.ga K "BadField")) one_BadField
def ex15 (K : PySem.W.Frag) : Bool := kitB K excs_k14 (fun _ => .type "ValueError") one_ValueError
def ex16 (K : PySem.W.Frag) : Bool := waysB K (He.ga K "WAYS") tab_WAYS
def ex17 (K : PySem.W.Frag) : Bool := keepB K excs_k14 "LineError"
def ex (K : PySem.W.Frag) : Bool := ex0 K && (ex1 K && (ex2 K && (ex3 K && (ex4 K && (ex5 K && (ex6 K && (ex7 K && (ex8 K && (ex9 K && (ex10 K && (ex11 K && (ex12 K && (ex13 K && (ex14 K && (ex15 K && (ex16 K && (ex17 K)))))))))))))))))
abbrev R : PySem.W.OpenRow := PySem.W.OpenLaw.row PySem.Challenge.rw_bendline_k14_strolls
abbrev hk : PySem.W.Hook := hookY 5 "WAYS" fa fn tf ex
def ob (s : PySem.W.SharedT) : He.AlX := obsY 5 "WAYS" fa fn tf ex (HandSHeadRun.getT s)
theorem ob_eq (s : PySem.W.SharedT) : ob s = hk.obs s.abs := obsY_eq (HandSHeadRun.getT_eq s)
def names0 : List Str := ["LineError", "BadSize", "BadPose", "BadCell", "BadNumber", "BadSquare", "BadField", "TooGreat", "MOST_SIZE", "POSES", "is_among", "need_size", "need_pose", "is_cell", "need_cell", "both", "led", "QUARTERS", "cells_of", "need_number"]
def names1 : List Str := ["quarter", "come_to", "cell_at", "found_at", "number_of", "MOST_WAYS", "WAYS", "Stroll", "_law_mixed", "_law_size", "_law_pose", "_law_among", "_law_side", "_law_many", "_law_whole", "_law_laid", "_law_walked", "_law_numbered", "_law_kept", "_law_word"]
def names2 : List Str := ["_law_ways", "_law_right", "_law_moved", "_law_refused"]
def names : List Str := names0 ++ names1 ++ names2
set_option maxHeartbeats 0 in
theorem run (w : World) : HandSHeadRun.RunEq R (PySem.W.view R.prog [49]) hk ob 6000 names w := by
  refine wx_all (p := fun w => HandSHeadRun.RunEq R (PySem.W.view R.prog [49]) hk ob 6000 names w) (fun b w => ?_) w
  cases b
  · intro os
    kernel_rfl
  · intro os
    kernel_rfl
def TT (K : PySem.W.Frag) : List (Addr × Str) := [((He.cT K ("_law_refused", none)).2, qualL "_law_refused" (defScope s_law_refused))]
theorem facts {P : Program} {w : World} {K : PySem.W.Frag} {h : Heap} {mg : Str → Option Value} {f : Addr} (X : K.In h) (G : h.Ns mainGlobals mg) (hfa : mg ("law" : Str) = some (.ref f)) (c : He.SaysD fa fn K) (cx : ex K = true) :
    ∃ fd : FuncData, (∀ (s : Shared) (v : Value), BindsTo s fd ⟨[v], []⟩ [("_law_script", v)]) ∧ ∀ base : Heap, K.In base → base.Ns mainGlobals mg → (∀ p ∈ tf.map (He.cT K), TabB base mg p.1 p.2) → FnOk P w K mg base CX0 10 f fd ["_law_script"] (spLT K (TT K) G_law_k14) := by
  have n_ValueError : mg "ValueError" = none := He.free_ok X G (c.fact 36 (f := .free "ValueError") rfl)
  have n_bool : mg "bool" = none := He.free_ok X G (c.fact 37 (f := .free "bool") rfl)
  have n_enumerate : mg "enumerate" = none := He.free_ok X G (c.fact 38 (f := .free "enumerate") rfl)
  have n_int : mg "int" = none := He.free_ok X G (c.fact 39 (f := .free "int") rfl)
  have n_isinstance : mg "isinstance" = none := He.free_ok X G (c.fact 40 (f := .free "isinstance") rfl)
  have n_len : mg "len" = none := He.free_ok X G (c.fact 41 (f := .free "len") rfl)
  have n_list : mg "list" = none := He.free_ok X G (c.fact 42 (f := .free "list") rfl)
  have n_max : mg "max" = none := He.free_ok X G (c.fact 43 (f := .free "max") rfl)
  have n_min : mg "min" = none := He.free_ok X G (c.fact 44 (f := .free "min") rfl)
  have n_range : mg "range" = none := He.free_ok X G (c.fact 45 (f := .free "range") rfl)
  have n_reversed : mg "reversed" = none := He.free_ok X G (c.fact 46 (f := .free "reversed") rfl)
  have n_str : mg "str" = none := He.free_ok X G (c.fact 47 (f := .free "str") rfl)
  have n_sum : mg "sum" = none := He.free_ok X G (c.fact 48 (f := .free "sum") rfl)
  have n_tuple : mg "tuple" = none := He.free_ok X G (c.fact 49 (f := .free "tuple") rfl)
  have q_BadCell : mg "BadCell" = some (.ref (He.ga K "BadCell")) := He.glo_ok X G (c.fact 50 (f := .glo "BadCell") rfl)
  have q_BadField : mg "BadField" = some (.ref (He.ga K "BadField")) := He.glo_ok X G (c.fact 51 (f := .glo "BadField") rfl)
  have q_BadNumber : mg "BadNumber" = some (.ref (He.ga K "BadNumber")) := He.glo_ok X G (c.fact 52 (f := .glo "BadNumber") rfl)
  have q_BadPose : mg "BadPose" = some (.ref (He.ga K "BadPose")) := He.glo_ok X G (c.fact 53 (f := .glo "BadPose") rfl)
  have q_BadSize : mg "BadSize" = some (.ref (He.ga K "BadSize")) := He.glo_ok X G (c.fact 54 (f := .glo "BadSize") rfl)
  have q_BadSquare : mg "BadSquare" = some (.ref (He.ga K "BadSquare")) := He.glo_ok X G (c.fact 55 (f := .glo "BadSquare") rfl)
  have q_LineError : mg "LineError" = some (.ref (He.ga K "LineError")) := He.glo_ok X G (c.fact 56 (f := .glo "LineError") rfl)
  have q_TooGreat : mg "TooGreat" = some (.ref (He.ga K "TooGreat")) := He.glo_ok X G (c.fact 57 (f := .glo "TooGreat") rfl)
  have q_WAYS : mg "WAYS" = some (.ref (He.ga K "WAYS")) := He.glo_ok X G (c.fact 58 (f := .glo "WAYS") rfl)
  unfold ex at cx
  obtain ⟨cx0, cx⟩ := He.ba cx
  have g_MOST_SIZE : GloD K mg "MOST_SIZE" d_MOST_SIZE := gloD_ok X G cx0
  obtain ⟨cx1, cx⟩ := He.ba cx
  have g_MOST_WAYS : GloD K mg "MOST_WAYS" d_MOST_WAYS := gloD_ok X G cx1
  obtain ⟨cx2, cx⟩ := He.ba cx
  have g_POSES : GloD K mg "POSES" d_POSES := gloD_ok X G cx2
  obtain ⟨cx3, cx⟩ := He.ba cx
  have g_QUARTERS : GloD K mg "QUARTERS" d_QUARTERS := gloD_ok X G cx3
  obtain ⟨cx4, cx⟩ := He.ba cx
  have e_BadNumber : ExcA K mg "BadNumber" (He.ga K "BadNumber") := by
    obtain ⟨C, z⟩ := excOk_ok X G cx4
    rw [ga_of z.k]
    exact z
  obtain ⟨cx5, cx⟩ := He.ba cx
  have e_BadPose : ExcA K mg "BadPose" (He.ga K "BadPose") := by
    obtain ⟨C, z⟩ := excOk_ok X G cx5
    rw [ga_of z.k]
    exact z
  obtain ⟨cx6, cx⟩ := He.ba cx
  have e_BadSize : ExcA K mg "BadSize" (He.ga K "BadSize") := by
    obtain ⟨C, z⟩ := excOk_ok X G cx6
    rw [ga_of z.k]
    exact z
  obtain ⟨cx7, cx⟩ := He.ba cx
  have e_BadCell : ExcA K mg "BadCell" (He.ga K "BadCell") := by
    obtain ⟨C, z⟩ := excOk_ok X G cx7
    rw [ga_of z.k]
    exact z
  obtain ⟨cx8, cx⟩ := He.ba cx
  have k_BadCell : KitT K (.ref (He.ga K "BadCell")) tab_BadCell := kitB_ok (cv := fun K => .ref (He.ga K "BadCell")) cx8
  obtain ⟨cx9, cx⟩ := He.ba cx
  have k_BadPose : KitT K (.ref (He.ga K "BadPose")) tab_BadPose := kitB_ok (cv := fun K => .ref (He.ga K "BadPose")) cx9
  obtain ⟨cx10, cx⟩ := He.ba cx
  have k_BadSize : KitT K (.ref (He.ga K "BadSize")) tab_BadSize := kitB_ok (cv := fun K => .ref (He.ga K "BadSize")) cx10
  obtain ⟨cx11, cx⟩ := He.ba cx
  have k_BadSquare : KitT K (.ref (He.ga K "BadSquare")) tab_BadSquare := kitB_ok (cv := fun K => .ref (He.ga K "BadSquare")) cx11
  obtain ⟨cx12, cx⟩ := He.ba cx
  have k_BadNumber : KitT K (.ref (He.ga K "BadNumber")) tab_BadNumber := kitB_ok (cv := fun K => .ref (He.ga K "BadNumber")) cx12
  obtain ⟨cx13, cx⟩ := He.ba cx
  have k_TooGreat : KitT K (.ref (He.ga K "TooGreat")) tab_TooGreat := kitB_ok (cv := fun K => .ref (He.ga K "TooGreat")) cx13
  obtain ⟨cx14, cx⟩ := He.ba cx
  have k_BadField : KitT K (.ref (He.ga K "BadField")) tab_BadField := kitB_ok (cv := fun K => .ref (He.ga K "BadField")) cx14
  obtain ⟨cx15, cx⟩ := He.ba cx
  have k_ValueError : KitT K (.type "ValueError") tab_ValueError := kitB_ok (cv := fun _ => .type "ValueError") cx15
  obtain ⟨cx16, cx⟩ := He.ba cx
  have w_ways : ∀ (P : Program) (w : World), WaysG K P w (He.ga K "WAYS") tab_WAYS := waysB_ok cx16
  have cx17 := cx
  have kt : KeepT K mg (He.ga K "LineError") okC_k14 := keepB_ok X G cx17
  have hl : He.fAd K ("law", none) = f := by
    have e := (He.glo_ok X G (c.fact 35 (f := .glo "law") rfl)).symm.trans hfa
    exact Value.ref.inj (Option.some.inj e)
  have SK : StK K := ⟨He.cls_ok (c.fact 60 (f := .cls "Stroll") rfl), He.noat_ok (c.fact 62 (f := .noat "Stroll" "size") rfl), He.noat_ok (c.fact 63 (f := .noat "Stroll" "pose") rfl), He.noat_ok (c.fact 64 (f := .noat "Stroll" "at") rfl)⟩
  have w_WAYS : WaysG K P w (He.ga K "WAYS") tab_WAYS := w_ways P w
  have at_cells_of : DefAt K mg "cells_of" s_cells_of ["level"] := by
    obtain ⟨fd, F⟩ := c.def_ 0 (d := D_cells_of) rfl
    exact ⟨_, fd, F, He.glo_ok X G (c.fact 0 (f := .glo "cells_of") rfl), FunD.bindsN F fun _ _ _ _ _ _ us hl => match us, hl with | [_], _ => rfl⟩
  have at_both : DefAt K mg "both" s_both ["one", "other"] := by
    obtain ⟨fd, F⟩ := c.def_ 1 (d := D_both) rfl
    exact ⟨_, fd, F, He.glo_ok X G (c.fact 1 (f := .glo "both") rfl), FunD.bindsN F fun _ _ _ _ _ _ us hl => match us, hl with | [_, _], _ => rfl⟩
  have at_led : DefAt K mg "led" s_led ["pose", "most", "x", "y"] := by
    obtain ⟨fd, F⟩ := c.def_ 2 (d := D_led) rfl
    exact ⟨_, fd, F, He.glo_ok X G (c.fact 2 (f := .glo "led") rfl), FunD.bindsN F fun _ _ _ _ _ _ us hl => match us, hl with | [_, _, _, _], _ => rfl⟩
  have at_quarter : DefAt K mg "quarter" s_quarter ["pose", "digit"] := by
    obtain ⟨fd, F⟩ := c.def_ 3 (d := D_quarter) rfl
    exact ⟨_, fd, F, He.glo_ok X G (c.fact 3 (f := .glo "quarter") rfl), FunD.bindsN F fun _ _ _ _ _ _ us hl => match us, hl with | [_, _], _ => rfl⟩
  have at_come_to : DefAt K mg "come_to" s_come_to ["size", "pose", "number", "level"] := by
    obtain ⟨fd, F⟩ := c.def_ 4 (d := D_come_to) rfl
    exact ⟨_, fd, F, He.glo_ok X G (c.fact 4 (f := .glo "come_to") rfl), FunD.bindsN F fun _ _ _ _ _ _ us hl => match us, hl with | [_, _, _, _], _ => rfl⟩
  have at_is_among : DefAt K mg "is_among" s_is_among ["thing", "least", "most"] := by
    obtain ⟨fd, F⟩ := c.def_ 5 (d := D_is_among) rfl
    exact ⟨_, fd, F, He.glo_ok X G (c.fact 5 (f := .glo "is_among") rfl), FunD.bindsN F fun _ _ _ _ _ _ us hl => match us, hl with | [_, _, _], _ => rfl⟩
  have at_need_number : DefAt K mg "need_number" s_need_number ["number", "most"] := by
    obtain ⟨fd, F⟩ := c.def_ 6 (d := D_need_number) rfl
    exact ⟨_, fd, F, He.glo_ok X G (c.fact 6 (f := .glo "need_number") rfl), FunD.bindsN F fun _ _ _ _ _ _ us hl => match us, hl with | [_, _], _ => rfl⟩
  have at_need_pose : DefAt K mg "need_pose" s_need_pose ["pose"] := by
    obtain ⟨fd, F⟩ := c.def_ 7 (d := D_need_pose) rfl
    exact ⟨_, fd, F, He.glo_ok X G (c.fact 7 (f := .glo "need_pose") rfl), FunD.bindsN F fun _ _ _ _ _ _ us hl => match us, hl with | [_], _ => rfl⟩
  have at_need_size : DefAt K mg "need_size" s_need_size ["size"] := by
    obtain ⟨fd, F⟩ := c.def_ 8 (d := D_need_size) rfl
    exact ⟨_, fd, F, He.glo_ok X G (c.fact 8 (f := .glo "need_size") rfl), FunD.bindsN F fun _ _ _ _ _ _ us hl => match us, hl with | [_], _ => rfl⟩
  have at_cell_at : DefAt K mg "cell_at" s_cell_at ["size", "pose", "number"] := by
    obtain ⟨fd, F⟩ := c.def_ 9 (d := D_cell_at) rfl
    exact ⟨_, fd, F, He.glo_ok X G (c.fact 9 (f := .glo "cell_at") rfl), FunD.bindsN F fun _ _ _ _ _ _ us hl => match us, hl with | [_, _, _], _ => rfl⟩
  have at_law_many : DefAt K mg "_law_many" s_law_many ["_law_level"] := by
    obtain ⟨fd, F⟩ := c.def_ 12 (d := D_law_many) rfl
    exact ⟨_, fd, F, He.glo_ok X G (c.fact 12 (f := .glo "_law_many") rfl), FunD.bindsN F fun _ _ _ _ _ _ us hl => match us, hl with | [_], _ => rfl⟩
  have at_law_mixed : DefAt K mg "_law_mixed" s_law_mixed ["_law_cell", "_law_k"] := by
    obtain ⟨fd, F⟩ := c.def_ 13 (d := D_law_mixed) rfl
    exact ⟨_, fd, F, He.glo_ok X G (c.fact 13 (f := .glo "_law_mixed") rfl), FunD.bindsN F fun _ _ _ _ _ _ us hl => match us, hl with | [_, _], _ => rfl⟩
  have at_found_at : DefAt K mg "found_at" s_found_at ["size", "pose", "cell", "level"] := by
    obtain ⟨fd, F⟩ := c.def_ 15 (d := D_found_at) rfl
    exact ⟨_, fd, F, He.glo_ok X G (c.fact 15 (f := .glo "found_at") rfl), FunD.bindsN F fun _ _ _ _ _ _ us hl => match us, hl with | [_, _, _, _], _ => rfl⟩
  have at_is_cell : DefAt K mg "is_cell" s_is_cell ["size", "thing"] := by
    obtain ⟨fd, F⟩ := c.def_ 16 (d := D_is_cell) rfl
    exact ⟨_, fd, F, He.glo_ok X G (c.fact 16 (f := .glo "is_cell") rfl), FunD.bindsN F fun _ _ _ _ _ _ us hl => match us, hl with | [_, _], _ => rfl⟩
  have at_need_cell : DefAt K mg "need_cell" s_need_cell ["size", "cell"] := by
    obtain ⟨fd, F⟩ := c.def_ 17 (d := D_need_cell) rfl
    exact ⟨_, fd, F, He.glo_ok X G (c.fact 17 (f := .glo "need_cell") rfl), FunD.bindsN F fun _ _ _ _ _ _ us hl => match us, hl with | [_, _], _ => rfl⟩
  have at_number_of : DefAt K mg "number_of" s_number_of ["size", "pose", "cell"] := by
    obtain ⟨fd, F⟩ := c.def_ 18 (d := D_number_of) rfl
    exact ⟨_, fd, F, He.glo_ok X G (c.fact 18 (f := .glo "number_of") rfl), FunD.bindsN F fun _ _ _ _ _ _ us hl => match us, hl with | [_, _, _], _ => rfl⟩
  have at_law_among : DefAt K mg "_law_among" s_law_among ["_law_cell", "_law_k", "_law_beyond"] := by
    obtain ⟨fd, F⟩ := c.def_ 20 (d := D_law_among) rfl
    exact ⟨_, fd, F, He.glo_ok X G (c.fact 20 (f := .glo "_law_among") rfl), FunD.bindsN F fun _ _ _ _ _ _ us hl => match us, hl with | [_, _, _], _ => rfl⟩
  have at_law_laid : DefAt K mg "_law_laid" s_law_laid ["_law_pose_here", "_law_side_here", "_law_x", "_law_y"] := by
    obtain ⟨fd, F⟩ := c.def_ 21 (d := D_law_laid) rfl
    exact ⟨_, fd, F, He.glo_ok X G (c.fact 21 (f := .glo "_law_laid") rfl), FunD.bindsN F fun _ _ _ _ _ _ us hl => match us, hl with | [_, _, _, _], _ => rfl⟩
  have at_law_side : DefAt K mg "_law_side" s_law_side ["_law_level"] := by
    obtain ⟨fd, F⟩ := c.def_ 22 (d := D_law_side) rfl
    exact ⟨_, fd, F, He.glo_ok X G (c.fact 22 (f := .glo "_law_side") rfl), FunD.bindsN F fun _ _ _ _ _ _ us hl => match us, hl with | [_], _ => rfl⟩
  have at_law_numbered : DefAt K mg "_law_numbered" s_law_numbered ["_law_size_here", "_law_pose_here", "_law_cell"] := by
    obtain ⟨fd, F⟩ := c.def_ 23 (d := D_law_numbered) rfl
    exact ⟨_, fd, F, He.glo_ok X G (c.fact 23 (f := .glo "_law_numbered") rfl), FunD.bindsN F fun _ _ _ _ _ _ us hl => match us, hl with | [_, _, _], _ => rfl⟩
  have at_law_moved : DefAt K mg "_law_moved" s_law_moved ["_law_stroll", "_law_own", "_law_cell", "_law_number"] := by
    obtain ⟨fd, F⟩ := c.def_ 24 (d := D_law_moved) rfl
    exact ⟨_, fd, F, He.glo_ok X G (c.fact 24 (f := .glo "_law_moved") rfl), FunD.bindsN F fun _ _ _ _ _ _ us hl => match us, hl with | [_, _, _, _], _ => rfl⟩
  have at_law_pose : DefAt K mg "_law_pose" s_law_pose ["_law_number"] := by
    obtain ⟨fd, F⟩ := c.def_ 25 (d := D_law_pose) rfl
    exact ⟨_, fd, F, He.glo_ok X G (c.fact 25 (f := .glo "_law_pose") rfl), FunD.bindsN F fun _ _ _ _ _ _ us hl => match us, hl with | [_], _ => rfl⟩
  have at_law_kept : DefAt K mg "_law_kept" s_law_kept ["_law_deed"] := by
    obtain ⟨fd, F⟩ := c.def_ 26 (d := D_law_kept) rfl
    exact ⟨_, fd, F, He.glo_ok X G (c.fact 26 (f := .glo "_law_kept") rfl), FunD.bindsN F fun _ _ _ _ _ _ us hl => match us, hl with | [_], _ => rfl⟩
  have at_law_word : DefAt K mg "_law_word" s_law_word ["_law_e"] := by
    obtain ⟨fd, F⟩ := c.def_ 27 (d := D_law_word) rfl
    exact ⟨_, fd, F, He.glo_ok X G (c.fact 27 (f := .glo "_law_word") rfl), FunD.bindsN F fun _ _ _ _ _ _ us hl => match us, hl with | [_], _ => rfl⟩
  have at_law_refused : DefAtT K mg "_law_refused" s_law_refused ["_law_stroll", "_law_own", "_law_number"] := by
    obtain ⟨fd, F⟩ := c.def_ 28 (d := D_law_refused) rfl
    exact ⟨_, fd, F, He.glo_ok X G (c.fact 28 (f := .glo "_law_refused") rfl), FunD.bindsN F fun _ _ _ _ _ _ us hl => match us, hl with | [_, _, _], _ => rfl, code_of F⟩
  have at_law_walked : DefAt K mg "_law_walked" s_law_walked ["_law_size_here", "_law_pose_here", "_law_number"] := by
    obtain ⟨fd, F⟩ := c.def_ 30 (d := D_law_walked) rfl
    exact ⟨_, fd, F, He.glo_ok X G (c.fact 30 (f := .glo "_law_walked") rfl), FunD.bindsN F fun _ _ _ _ _ _ us hl => match us, hl with | [_, _, _], _ => rfl⟩
  have at_law_ways : DefAt K mg "_law_ways" s_law_ways ["_law_size_here", "_law_pose_here", "_law_at", "_law_steps"] := by
    obtain ⟨fd, F⟩ := c.def_ 31 (d := D_law_ways) rfl
    exact ⟨_, fd, F, He.glo_ok X G (c.fact 31 (f := .glo "_law_ways") rfl), FunD.bindsN F fun _ _ _ _ _ _ us hl => match us, hl with | [_, _, _, _], _ => rfl⟩
  have at_law_whole : DefAt K mg "_law_whole" s_law_whole ["_law_found"] := by
    obtain ⟨fd, F⟩ := c.def_ 32 (d := D_law_whole) rfl
    exact ⟨_, fd, F, He.glo_ok X G (c.fact 32 (f := .glo "_law_whole") rfl), FunD.bindsN F fun _ _ _ _ _ _ us hl => match us, hl with | [_], _ => rfl⟩
  have at_law_right : DefAt K mg "_law_right" s_law_right ["_law_stroll", "_law_own", "_law_number"] := by
    obtain ⟨fd, F⟩ := c.def_ 33 (d := D_law_right) rfl
    exact ⟨_, fd, F, He.glo_ok X G (c.fact 33 (f := .glo "_law_right") rfl), FunD.bindsN F fun _ _ _ _ _ _ us hl => match us, hl with | [_, _, _], _ => rfl⟩
  have at_law_size : DefAt K mg "_law_size" s_law_size ["_law_number"] := by
    obtain ⟨fd, F⟩ := c.def_ 34 (d := D_law_size) rfl
    exact ⟨_, fd, F, He.glo_ok X G (c.fact 34 (f := .glo "_law_size") rfl), FunD.bindsN F fun _ _ _ _ _ _ us hl => match us, hl with | [_], _ => rfl⟩
  obtain ⟨fd, F⟩ := c.def_ 35 (d := D_law_k14) rfl
  have hfd : fd.code = .ref (He.cT K ("law", none)).1 := code_of F
  have F : FunD K "law" "law" (defArgs s_law_k14) (defBody s_law_k14) (defScope s_law_k14) [] [] f fd := by rw [← hl]; exact F
  have b := FunD.bindsA (ps := ["_law_script"]) F fun _ _ _ _ _ _ us hl => match us, hl with | [_], _ => rfl
  refine ⟨fd, fun s v => b s [v] rfl, fun base _ _ TB => ?_⟩
  have kd := kept_d (K := K) (mg := mg) at_law_kept q_LineError
  have td_law_refused : TabD K base mg (TT K) "_law_refused" (defScope s_law_refused) := ⟨TB _ (List.mem_map.mpr ⟨("_law_refused", none), by unfold tf; simp, rfl⟩), by unfold TT; simp, fun p hp e => by
    unfold TT at hp
    simp only [List.mem_cons, List.not_mem_nil, or_false] at hp
    subst hp; rfl⟩
  have c_cells_of : Av P w K mg base "cells_of" ["level"] 1 G_cells_of := ok_cells_of at_cells_of 
  have c_both : Av P w K mg base "both" ["one", "other"] 1 G_both := ok_both at_both g_POSES
  have c_led : Av P w K mg base "led" ["pose", "most", "x", "y"] 1 G_led := ok_led at_led 
  have c_quarter : Av P w K mg base "quarter" ["pose", "digit"] 2 G_quarter := ok_quarter at_quarter c_both c_led g_QUARTERS
  have c_come_to : Av P w K mg base "come_to" ["size", "pose", "number", "level"] 3 G_come_to := ok_come_to at_come_to c_quarter n_range n_reversed
  have c_is_among : Av P w K mg base "is_among" ["thing", "least", "most"] 1 G_is_among := ok_is_among at_is_among n_bool n_int n_isinstance
  have x_need_number : AvX P w K mg base "need_number" ["number", "most"] 2 X_need_number := okx_need_number at_need_number c_is_among e_BadNumber
  have x_need_pose : AvX P w K mg base "need_pose" ["pose"] 1 X_need_pose := okx_need_pose at_need_pose n_isinstance n_str g_POSES e_BadPose
  have x_need_size : AvX P w K mg base "need_size" ["size"] 2 X_need_size := okx_need_size at_need_size c_is_among g_MOST_SIZE e_BadSize
  have i_Stroll : AvI P w K mg base "Stroll" 4 X_Stroll "size" "pose" "at" (He.ga K "Stroll") := by
    obtain ⟨fd, F⟩ := c.def_ 36 (d := D_Stroll_init) rfl
    have M : Mk K (He.ga K "Stroll") (He.fAd K ("Stroll", some "__init__")) := He.mkr_ok (c.fact 61 (f := .mkr "Stroll") rfl)
    have F0 := fn_init (P := P) (w := w) (base := base) (k := 2) (n1 := "size") (n2 := "pose") (n3 := "at") F sc_Stroll_init rfl x_need_size x_need_pose (by decide) (by decide) (He.cls_ok (c.fact 60 (f := .cls "Stroll") rfl)) (He.noat_ok (c.fact 62 (f := .noat "Stroll" "size") rfl)) (He.noat_ok (c.fact 63 (f := .noat "Stroll" "pose") rfl)) (He.noat_ok (c.fact 64 (f := .noat "Stroll" "at") rfl))
      (by decide +kernel) (by decide +kernel) (by decide +kernel) (by decide +kernel) (by decide +kernel) (by decide) (by decide) (by decide) (by decide) (by decide) (by decide) (by decide) (by decide) (by decide) (by decide) (by decide)
    exact ⟨_, fd, ["self", "size", "pose"], _, rfl, M, F0, He.glo_ok X G (c.fact 59 (f := .glo "Stroll") rfl), FunD.bindsN F fun _ _ _ _ _ _ us hl => match us, hl with | [_, _, _], _ => rfl⟩
  have x_cell_at : AvX P w K mg base "cell_at" ["size", "pose", "number"] 4 X_cell_at := okx_cell_at at_cell_at c_cells_of c_come_to x_need_number x_need_pose x_need_size
  obtain ⟨fd_here, F_here⟩ := c.def_ 10 (d := D_Stroll_here) rfl
  have M_here : Meth K (StC K) "here" (He.fAd K ("Stroll", some "here")) := He.meth_ok (c.fact 10 (f := .meth "Stroll" "here") rfl)
  have bd_here : Binds K fd_here ["self"] [] := FunD.bindsN F_here fun _ _ _ _ _ _ us hl => match us, hl with | [_], _ => rfl
  have mR_here := okmR_here (P := P) (w := w) (mg := mg) (base := base) F_here M_here bd_here x_cell_at SK
  obtain ⟨fd_ways, F_ways⟩ := c.def_ 11 (d := D_Stroll_ways) rfl
  have M_ways : Meth K (StC K) "ways" (He.fAd K ("Stroll", some "ways")) := He.meth_ok (c.fact 11 (f := .meth "Stroll" "ways") rfl)
  have bd_ways : Binds K fd_ways ["self", "steps"] [] := FunD.bindsN F_ways fun _ _ _ _ _ _ us hl => match us, hl with | [_, _], _ => rfl
  have mR_ways := okmR_ways (P := P) (w := w) (mg := mg) (base := base) F_ways M_ways bd_ways c_cells_of c_is_among x_cell_at SK q_WAYS w_WAYS mR_here n_min n_range g_MOST_WAYS e_BadNumber
  have mO_ways := okmO_ways (P := P) (w := w) (mg := mg) (base := base) F_ways M_ways bd_ways c_cells_of c_is_among x_cell_at SK q_WAYS w_WAYS mR_here n_min n_range g_MOST_WAYS e_BadNumber
  have c_law_many : Av P w K mg base "_law_many" ["_law_level"] 1 G_law_many := ok_law_many at_law_many 
  have c_law_mixed : Av P w K mg base "_law_mixed" ["_law_cell", "_law_k"] 1 G_law_mixed := ok_law_mixed at_law_mixed 
  obtain ⟨fd_go, F_go⟩ := c.def_ 14 (d := D_Stroll_go) rfl
  have M_go : Meth K (StC K) "go" (He.fAd K ("Stroll", some "go")) := He.meth_ok (c.fact 14 (f := .meth "Stroll" "go") rfl)
  have bd_go : Binds K fd_go ["self", "steps"] [] := FunD.bindsN F_go fun _ _ _ _ _ _ us hl => match us, hl with | [_, _], _ => rfl
  have mR_go := okmR_go (P := P) (w := w) (mg := mg) (base := base) F_go M_go bd_go c_cells_of SK n_bool n_int n_isinstance e_BadNumber
  have mW_go := okmW_go (P := P) (w := w) (mg := mg) (base := base) F_go M_go bd_go c_cells_of SK n_bool n_int n_isinstance e_BadNumber
  have c_found_at : Av P w K mg base "found_at" ["size", "pose", "cell", "level"] 3 G_found_at := ok_found_at at_found_at c_quarter n_range n_reversed
  have c_is_cell : Av P w K mg base "is_cell" ["size", "thing"] 2 G_is_cell := ok_is_cell at_is_cell c_is_among n_isinstance n_len n_tuple
  have x_need_cell : AvX P w K mg base "need_cell" ["size", "cell"] 3 X_need_cell := okx_need_cell at_need_cell c_is_cell e_BadCell
  have x_number_of : AvX P w K mg base "number_of" ["size", "pose", "cell"] 4 X_number_of := okx_number_of at_number_of c_found_at x_need_cell x_need_pose x_need_size
  obtain ⟨fd_to, F_to⟩ := c.def_ 19 (d := D_Stroll_to) rfl
  have M_to : Meth K (StC K) "to" (He.fAd K ("Stroll", some "to")) := He.meth_ok (c.fact 19 (f := .meth "Stroll" "to") rfl)
  have bd_to : Binds K fd_to ["self", "cell"] [] := FunD.bindsN F_to fun _ _ _ _ _ _ us hl => match us, hl with | [_, _], _ => rfl
  have mR_to := okmR_to (P := P) (w := w) (mg := mg) (base := base) F_to M_to bd_to x_number_of SK
  have mW_to := okmW_to (P := P) (w := w) (mg := mg) (base := base) F_to M_to bd_to x_number_of SK
  have c_law_among : Av P w K mg base "_law_among" ["_law_cell", "_law_k", "_law_beyond"] 2 G_law_among := ok_law_among at_law_among c_law_mixed
  have c_law_laid : Av P w K mg base "_law_laid" ["_law_pose_here", "_law_side_here", "_law_x", "_law_y"] 1 G_law_laid := ok_law_laid at_law_laid 
  have c_law_side : Av P w K mg base "_law_side" ["_law_level"] 1 G_law_side := ok_law_side at_law_side 
  have c_law_numbered : Av P w K mg base "_law_numbered" ["_law_size_here", "_law_pose_here", "_law_cell"] 2 G_law_numbered := ok_law_numbered at_law_numbered c_law_laid c_law_side n_int n_range
  have b_moved := okb_moved (P := P) (w := w) (mg := mg) (base := base) at_law_moved c_law_among c_law_many c_law_numbered c_law_side SK mW_go mW_to n_max n_min
  have c_law_pose : Av P w K mg base "_law_pose" ["_law_number"] 1 G_law_pose := ok_law_pose at_law_pose 
  have w_word : AvW P w K mg base "_law_word" ["_law_e"] 1 W_law_word := okw_word at_law_word n_ValueError n_int n_isinstance q_BadCell k_BadCell q_BadPose k_BadPose q_BadSize k_BadSize q_BadSquare k_BadSquare q_BadNumber k_BadNumber q_TooGreat k_TooGreat q_BadField k_BadField k_ValueError
  have b_refused : AvMT P w K (TT K) mg base "_law_refused" ["_law_stroll", "_law_own", "_law_number"] 9 MT_law_refused := okb_refused at_law_refused c_law_many c_law_side SK mR_go mR_to mR_ways w_word kd kt td_law_refused
  obtain ⟨fd_number, F_number⟩ := c.def_ 29 (d := D_Stroll_number) rfl
  have M_number : Meth K (StC K) "number" (He.fAd K ("Stroll", some "number")) := He.meth_ok (c.fact 29 (f := .meth "Stroll" "number") rfl)
  have bd_number : Binds K fd_number ["self"] [] := FunD.bindsN F_number fun _ _ _ _ _ _ us hl => match us, hl with | [_], _ => rfl
  have mR_number := okmR_number (P := P) (w := w) (mg := mg) (base := base) F_number M_number bd_number SK
  have c_law_walked : Av P w K mg base "_law_walked" ["_law_size_here", "_law_pose_here", "_law_number"] 2 G_law_walked := ok_law_walked at_law_walked c_law_laid c_law_many n_range
  have o_law_ways := oko_law_ways (P := P) (w := w) (base := base) at_law_ways c_law_many c_law_walked n_min n_range
  have c_law_ways : Av P w K mg base "_law_ways" ["_law_size_here", "_law_pose_here", "_law_at", "_law_steps"] 3 G_law_ways := ok_law_ways at_law_ways c_law_many c_law_walked n_min n_range
  have c_law_whole : Av P w K mg base "_law_whole" ["_law_found"] 1 G_law_whole := ok_law_whole at_law_whole n_bool n_int n_isinstance
  have b_right := okb_right (P := P) (w := w) (mg := mg) (base := base) at_law_right c_law_walked c_law_ways c_law_whole SK mR_here mR_number mO_ways n_isinstance n_list n_range
  have c_law_size : Av P w K mg base "_law_size" ["_law_number"] 1 G_law_size := ok_law_size at_law_size 
  exact ok_law_k14 F hfd c_law_many c_law_mixed c_law_pose c_law_size c_law_ways SK mR_ways b_moved b_refused b_right n_enumerate n_int n_min n_range n_sum i_Stroll
end BL
open PySem PySem.W PySem.Calls PyProof.Rows
set_option maxHeartbeats 0 in
theorem PySem.Challenge.cw_bendline_k14_strolls_holds : PySem.Challenge.rw_bendline_k14_strolls.Holds := by
  w_on; o_law
  refine HandSHeadRun.head_any (r := OpenLaw.row PySem.Challenge.rw_bendline_k14_strolls) (q := view (OpenLaw.row PySem.Challenge.rw_bendline_k14_strolls).prog [49]) (H := BL.hk) (ob := BL.ob) (M := 6000) (loose := BL.names) (d := HandSHeadRun.topDef (OpenLaw.row PySem.Challenge.rw_bendline_k14_strolls).prog 49) (kwd := []) BL.ob_eq
    (by kernel_rfl) (fun s => by kernel_rfl) BL.run (by kernel_rfl) (by kernel_rfl) (by kernel_rfl) (by rfl) (by first | assumption | decide +kernel) (by decide +kernel) ⟨rfl, rfl, rfl, rfl, rfl, by decide +kernel⟩ ?hw ?hc
  case hw => w_witness2
  case hc =>
    refine LamX.walk_ofTsE (l := PySem.Challenge.rw_bendline_k14_strolls) (n := 63) (k := 10) (x := "_law_script") (CX := fun _ => L2.CX0) rfl (by decide) (by kernel_rfl) ⟨rfl, by decide, by decide⟩ ?F (fun _ _ _ _ _ z => z)
    intro w mg fa h Y G hmg0
    obtain ⟨K, KX, c⟩ := Y
    have hmg : mg ("law" : PySem.Str) = some (.ref fa) := by
      have e : (HandSHeadRun.topDef (OpenLaw.row PySem.Challenge.rw_bendline_k14_strolls).prog 49).name = ("law" : PySem.Str) := by kernel_rfl
      rw [← e]
      exact hmg0
    obtain ⟨fd, hb, hF⟩ := BL.facts (P := (PySem.Challenge.rw_bendline_k14_strolls).prog) (w := w) KX G hmg (BL.saysX_d c) (BL.saysX_ex c)
    refine ⟨K, KX, fd, BL.tf.map (He.cT K), BL.spLT K (BL.TT K) BL.G_law_k14, fun p hp => ?_, fun p hp => ?_, fun p hp => ?_, hb, fun H a ns hl _ hT hS => ⟨a, ns, rfl, fun p hp => ?_, hS, BL.law_true ns hl, fun _ => rfl⟩, hF⟩
    · obtain ⟨q, hq, rfl⟩ := List.mem_map.mp hp
      exact c.empty q hq
    · obtain ⟨q, hq, rfl⟩ := List.mem_map.mp hp
      exact c.out q hq
    · obtain ⟨q, hq, rfl⟩ := List.mem_map.mp hp
      exact PySem.W.codeHd_of_K KX (c.hd q hq)
    · unfold BL.TT at hp
      simp only [List.mem_cons, List.not_mem_nil, or_false] at hp
      first
        | (rcases hp with rfl | rfl
           · exact hT _ (List.mem_map.mpr ⟨_, List.mem_cons_self, rfl⟩)
           · exact hT _ (List.mem_map.mpr ⟨_, List.mem_cons_of_mem _ List.mem_cons_self, rfl⟩))
        | (subst hp; exact hT _ (List.mem_map.mpr ⟨_, List.mem_cons_self, rfl⟩))
